import PyProof.Rows.All
import Wide.All
import OpenK.AllK
import Wide.FinOn
import HandS.Slots
import HandS.HeadHook2
import HandS.Codes
import HandS.Defaults
import HandS.Words
import HandS.Head0
import HandS.Head1
import HandS.Head2
import HandS.HeadEnd
import HandS.HeadHook1
import HandS.ForMost
import HandS.Flow
import HandS.TupAny
import HandS.Star
import HandS.StrMore
import HandS.Deep
import HandS.Dict
import HandS.WordsDict
import HandS.Text
import HandS.DictComp
import HandS.IsInst
import HandS.SlotsOwn
import HandS.Conv
import HandS.Ends
import PyProof.ReprRoads
import HandS.Set
import HandS.Strs
import KE.KDictPairs
import HandS.Small
import PyProof.WalkInts
import HandS.SortKw
import PyProof.Rows.MatchSeqLen
import PyProof.Rows.StrCut
import PyProof.StrLawsIn
import HandS.FStrTup
import PyProof.StrLawsRepr
import PyProof.FitsInt
import PySem.Challenge.RW_cellswide_k05_claims_judged
set_option Elab.async false
set_option linter.all false
set_option maxRecDepth 100000
namespace Lt
open PySem PySem.Spec L2
open He (eqO eqO_ok ba)
/-- a text by its signs -/
abbrev txS (x : List Nat) : Str := ⟨x.toArray⟩
def sclsB (K : PySem.W.Frag) (C : Addr) : Bool := PySem.W.plainGet K C Str.empty && (PySem.W.isClsIn K C && (PySem.W.plainOver K C && eqO (PySem.W.findIn K (.ref C) "__setattr__") (some (some (.builtin "object.__setattr__")))))
def slotB (K : PySem.W.Frag) (C : Addr) (f : Str) (i : Nat) : Bool := let p := He.ma K C f
  eqO (PySem.W.findIn K (.ref C) f) (some (some (.ref p))) && (eqO (PySem.W.specialIn K (.ref p) "__get__") (some (some (.builtin "member_descriptor.__get__"))) && (decide (PySem.W.takesIn K (.ref p) = some true) &&
    (decide (PySem.W.typeIn K (.ref p) = some (.type "member_descriptor")) && (decide (PySem.W.slotIn K p C = some i) && decide (i < 1000)))))
def sisiB (K : PySem.W.Frag) (C : Addr) : Bool := eqO (PySem.W.findIn K (.ref C) "__class__") (some (some (.builtin "object.__class__"))) && (eqO (PySem.W.specialIn K (.builtin "object.__class__") "__get__") (some (some (.builtin "getset_descriptor.__get__"))) &&
  (decide (PySem.W.takesIn K (.builtin "object.__class__") = some true) && decide (PySem.W.mroIn K C (.type "object") = some true)))
def ownB (K : PySem.W.Frag) (C : Addr) (m : Str) : Bool := eqO (PySem.W.findIn K (.ref C) m) (some (some (.ref (He.ma K C m)))) && PySem.W.isFn K (.ref (He.ma K C m))
/-- a tuple that stands at a -/
def tupAt (K : PySem.W.Frag) (a : Addr) (vs : List He.Dv) : Bool := match K.lookup a with
  | some ⟨.type c, _, .seq its _, _⟩ => decide (c = "tuple") && (decide (its.size ≤ sizeLine) && He.relAll (vs.map (He.Dv.v K)) its.toList)
  | _ => false
/-- addresses not seen yet -/
def newAs : List Addr → Nat → List Addr → (Nat × List Addr)
  | [], m, r => (m, r)
  | a :: l, m, r => match Nat.testBit m a with
    | true => newAs l m r
    | false => newAs l (m + 2 ^ a) (a :: r)
def bfs (g : Addr → Option Obj) : Nat → Nat → List Addr → List Addr → List Addr
  | 0, _, _, all => all
  | n + 1, m, fr, all => match newAs (fr.flatMap fun a => match g a with
      | some o => He.refsD o
      | none => []) m [] with
    | (m', nw) => bfs g n m' nw (all ++ nw)
def asB (g : Addr → Option Obj) (n : Nat) : List Addr := bfs g n (2 ^ mainGlobals) [mainGlobals] [mainGlobals]
def hookT (n : Nat) (fa : List He.Fa) (fn : List He.DefD) (ts : PySem.W.Frag → Bool) : PySem.W.Hook where
  α := He.AlD × Bool
  obs := fun s => (He.obsD fa fn (He.frG s.heap.get? (asB s.heap.get? n)), ts (He.frG s.heap.get? (asB s.heap.get? n)))
  val := fun _ => (He.valD fn, true)
  says := fun _ h => ∃ K : PySem.W.Frag, K.In h ∧ He.SaysD fa fn K ∧ ts K = true
  of := fun _ _ e => ⟨_, He.frG_in, congrArg Prod.fst e, congrArg Prod.snd e⟩
  keeps := fun _ _ _ ⟨K, hK, c⟩ k => ⟨K, PySem.W.Frag.In.keeps hK k, c⟩
def obsT (n : Nat) (fa : List He.Fa) (fn : List He.DefD) (ts : PySem.W.Frag → Bool) (g : Addr → Option Obj) : He.AlD × Bool := (He.obsD fa fn (He.frG g (asB g n)), ts (He.frG g (asB g n)))
theorem obsT_eq {n : Nat} {fa : List He.Fa} {fn : List He.DefD} {ts : PySem.W.Frag → Bool} {g : Addr → Option Obj} {s : Shared} (h : ∀ a, g a = s.heap.get? a) : obsT n fa fn ts g = (hookT n fa fn ts).obs s := by
  have e : g = s.heap.get? := funext h
  rw [e] <;> rfl
def K0 (n : Nat) (s : PySem.W.SharedT) : PySem.W.Frag := He.frG (HandSHeadRun.getT s) (asB (HandSHeadRun.getT s) n)
theorem of_map {α β : Type} {e : Option α} {f : α → β} {b : β} (h : e.map f = some b) : ∃ s, e = some s ∧ f s = b := by
  cases e with
  | none => cases h
  | some s => exact ⟨s, rfl, Option.some.inj h⟩
open HandSHeadRun PySem.W in
theorem run_join {r : OpenRow} {q : Program} {n M : Nat} {fa : List He.Fa} {fn : List He.DefD} {fns : List (List He.DefD)} {ts : PySem.W.Frag → Bool} {loose : List PySem.Str} {w : World} (hfn : fn = fns.flatten)
    (hB : ∀ os, (endF (stepQ (denQ tabQ) r.prog w) M r.prog w os).map (fun s => looksF r.prog (boot_heap w.params) s.abs) = some true)
    (hC : ∀ os, (endF (stepQ (denQ tabQ) r.prog w) M r.prog w os).map (fun s => seenQ q loose (importedModules r.prog.main.body) (fun s => xlAt q [] s && recOk r.toRowW.records s) s.abs) = some (openGood q loose))
    (hF : ∀ os, (endF (stepQ (denQ tabQ) r.prog w) M r.prog w os).map (fun s => fa.all fun f => f.ok (K0 n s)) = some true)
    (hT : ∀ os, (endF (stepQ (denQ tabQ) r.prog w) M r.prog w os).map (fun s => ts (K0 n s)) = some true)
    (hN : ∀ l ∈ fns, ∀ os, (endF (stepQ (denQ tabQ) r.prog w) M r.prog w os).map (fun s => (l.all (fun d => d.ok (K0 n s)), l.map fun d => He.fnW (K0 n s) d.at_)) = some (true, l.map He.DefD.val)) :
    RunEq r q (hookT n fa fn ts) (fun s => obsT n fa fn ts (getT s)) M loose w := by
  intro os
  obtain ⟨s, e, b⟩ := of_map (hB os)
  have pick : ∀ {β : Type} {f : SharedT → β} {v : β}, (endF (stepQ (denQ tabQ) r.prog w) M r.prog w os).map f = some v → f s = v := fun {β f v} h => by
    rw [e] at h
    exact Option.some.inj h
  have c := pick (hC os)
  have f := pick (hF os)
  have t := pick (hT os)
  have nn : ∀ l ∈ fns, (l.all (fun d => d.ok (K0 n s)), l.map fun d => He.fnW (K0 n s) d.at_) = (true, l.map He.DefD.val) := fun l hl => pick (hN l hl os)
  have all : ∀ ls : List (List He.DefD), (∀ l ∈ ls, (l.all (fun d => d.ok (K0 n s)), l.map fun d => He.fnW (K0 n s) d.at_) = (true, l.map He.DefD.val)) → (ls.flatten.all (fun d => d.ok (K0 n s)) = true ∧ (ls.flatten.map fun d => He.fnW (K0 n s) d.at_) = ls.flatten.map He.DefD.val) := by
    intro ls
    induction ls with
    | nil => exact fun _ => ⟨rfl, rfl⟩
    | cons l ls ih =>
      intro h
      have h1 := h l List.mem_cons_self
      obtain ⟨i1, i2⟩ := ih fun l' hl' => h l' (List.mem_cons_of_mem _ hl')
      rw [Prod.mk.injEq] at h1
      rw [List.flatten_cons, List.all_append, List.map_append, List.map_append, h1.1, h1.2, i1, i2]
      exact ⟨rfl, rfl⟩
  obtain ⟨a1, a2⟩ := all fns nn
  rw [← hfn] at a1 a2
  rw [e]
  show some (looksF r.prog (boot_heap w.params) s.abs, seenQ q loose (importedModules r.prog.main.body) (fun s => xlAt q [] s && recOk r.toRowW.records s) s.abs, obsT n fa fn ts (getT s)) = some (true, openGood q loose, (He.valD fn, true))
  rw [b, c]
  have o : obsT n fa fn ts (getT s) = (((fa.all fun f => f.ok (K0 n s)) && fn.all fun d => d.ok (K0 n s), fn.map fun d => He.fnW (K0 n s) d.at_), ts (K0 n s)) := rfl
  rw [o, f, t, a1, a2]
  rfl
end Lt

set_option maxRecDepth 100000
set_option maxHeartbeats 0
namespace k05
open Lt PySem PySem.Spec L2
def top (i : Nat) : Stmt := PySem.Challenge.pw_cellswide_k05_claims_judged.main.body.getD i (.Pass ⟨0, 0, 0, 0⟩)
def mth (i j : Nat) : Stmt := (C8.clsBody (top i)).getD j (.Pass ⟨0, 0, 0, 0⟩)
def adr (K : PySem.W.Frag) : Nat → Addr
  | 0 => He.ga K "law"
  | 1 => He.ga K "_law_keg"
  | 2 => He.ga K "_law_sides"
  | 3 => He.ga K "_law_choices"
  | 4 => He.ga K "_law_tap"
  | 5 => He.ga K "_law_choice"
  | 6 => He.ga K "_law_frame_of"
  | 7 => He.ma K (He.ga K "Frame") "__init__"
  | 8 => He.ga K "lengths_of"
  | 9 => He.ga K "are_frame"
  | 10 => He.ga K "are_names"
  | 11 => He.ga K "is_name"
  | 12 => He.ga K "is_array"
  | 13 => He.ga K "_law_own_names"
  | 14 => He.ga K "_law_all_names"
  | 15 => He.ga K "_law_claim"
  | 16 => He.ga K "_law_body"
  | 17 => He.ga K "_law_worth"
  | 18 => He.ga K "_law_place"
  | 19 => He.ga K "_law_number"
  | 20 => He.ga K "_law_place_names"
  | 21 => He.ga K "_law_guard"
  | 22 => He.ga K "_law_limits_right"
  | 23 => He.ga K "_law_deep"
  | 24 => He.ga K "is_claim"
  | 25 => He.ga K "require_frame"
  | 26 => He.ga K "is_claim_for"
  | 27 => He.ga K "is_claim_in"
  | 28 => He.ga K "is_joined"
  | 29 => He.ga K "has_shape"
  | 30 => He.ga K "is_all_in"
  | 31 => He.ga K "are_own"
  | 32 => He.ma K (He.ga K "Frame") "is_fresh"
  | 33 => He.ga K "is_guard_in"
  | 34 => He.ga K "is_op"
  | 35 => He.ga K "is_guard_term"
  | 36 => He.ga K "is_position"
  | 37 => He.ga K "is_place_name"
  | 38 => He.ga K "has_kind"
  | 39 => He.ma K (He.ga K "Frame") "__contains__"
  | 40 => He.ga K "is_integer"
  | 41 => He.ga K "is_body_in"
  | 42 => He.ga K "is_body_term"
  | 43 => He.ga K "is_value"
  | 44 => He.ga K "is_cell"
  | 45 => He.ga K "claim_depth"
  | 46 => He.ga K "require_both"
  | 47 => He.ga K "require_claim"
  | 48 => He.ga K "depth_of"
  | 49 => He.ga K "claim_parts"
  | 50 => He.ga K "_law_all_judged"
  | 51 => He.ga K "_law_is_claim"
  | 52 => He.ga K "_law_are_joined"
  | 53 => He.ga K "_law_starts"
  | 54 => He.ga K "_law_is_op"
  | 55 => He.ga K "_law_is_body"
  | 56 => He.ga K "_law_is_worth"
  | 57 => He.ga K "_law_is_whole"
  | 58 => He.ga K "_law_is_place"
  | 59 => He.ga K "_law_are_own"
  | 60 => He.ga K "_law_is_guard"
  | 61 => He.ga K "is_guard"
  | 62 => He.ga K "require_own"
  | 63 => He.ga K "is_body"
  | 64 => He.ga K "_law_bent"
  | 65 => He.ga K "_law_odd"
  | _ => 0
def ca (K : PySem.W.Frag) : Nat → Addr
  | 0 => He.ga K "Frame"
  | _ => 0
def dd0 : He.DefD := ⟨("law", none), "law", "law", defArgs (top 82), defBody (top 82), defScope (top 82), [], []⟩
def dd1 : He.DefD := ⟨("_law_keg", none), "_law_keg", "_law_keg", defArgs (top 52), defBody (top 52), defScope (top 52), [], []⟩
def dd2 : He.DefD := ⟨("_law_sides", none), "_law_sides", "_law_sides", defArgs (top 56), defBody (top 56), defScope (top 56), [], []⟩
def dd3 : He.DefD := ⟨("_law_choices", none), "_law_choices", "_law_choices", defArgs (top 54), defBody (top 54), defScope (top 54), [], []⟩
def dd4 : He.DefD := ⟨("_law_tap", none), "_law_tap", "_law_tap", defArgs (top 53), defBody (top 53), defScope (top 53), [], []⟩
def dd5 : He.DefD := ⟨("_law_choice", none), "_law_choice", "_law_choice", defArgs (top 55), defBody (top 55), defScope (top 55), [], []⟩
def dd6 : He.DefD := ⟨("_law_frame_of", none), "_law_frame_of", "_law_frame_of", defArgs (top 57), defBody (top 57), defScope (top 57), [], []⟩
def dd7 : He.DefD := ⟨("Frame", some "__init__"), "__init__", "Frame.__init__", defArgs (mth 18 1), defBody (mth 18 1), defScope (mth 18 1), [], []⟩
def dd8 : He.DefD := ⟨("lengths_of", none), "lengths_of", "lengths_of", defArgs (top 16), defBody (top 16), defScope (top 16), [], []⟩
def dd9 : He.DefD := ⟨("are_frame", none), "are_frame", "are_frame", defArgs (top 17), defBody (top 17), defScope (top 17), [], []⟩
def dd10 : He.DefD := ⟨("are_names", none), "are_names", "are_names", defArgs (top 14), defBody (top 14), defScope (top 14), [], []⟩
def dd11 : He.DefD := ⟨("is_name", none), "is_name", "is_name", defArgs (top 13), defBody (top 13), defScope (top 13), [], []⟩
def dd12 : He.DefD := ⟨("is_array", none), "is_array", "is_array", defArgs (top 15), defBody (top 15), defScope (top 15), [], []⟩
def dd13 : He.DefD := ⟨("_law_own_names", none), "_law_own_names", "_law_own_names", defArgs (top 59), defBody (top 59), defScope (top 59), [], []⟩
def dd14 : He.DefD := ⟨("_law_all_names", none), "_law_all_names", "_law_all_names", defArgs (top 58), defBody (top 58), defScope (top 58), [], []⟩
def dd15 : He.DefD := ⟨("_law_claim", none), "_law_claim", "_law_claim", defArgs (top 66), defBody (top 66), defScope (top 66), [], []⟩
def dd16 : He.DefD := ⟨("_law_body", none), "_law_body", "_law_body", defArgs (top 64), defBody (top 64), defScope (top 64), [], []⟩
def dd17 : He.DefD := ⟨("_law_worth", none), "_law_worth", "_law_worth", defArgs (top 63), defBody (top 63), defScope (top 63), [], []⟩
def dd18 : He.DefD := ⟨("_law_place", none), "_law_place", "_law_place", defArgs (top 62), defBody (top 62), defScope (top 62), [], []⟩
def dd19 : He.DefD := ⟨("_law_number", none), "_law_number", "_law_number", defArgs (top 61), defBody (top 61), defScope (top 61), [], []⟩
def dd20 : He.DefD := ⟨("_law_place_names", none), "_law_place_names", "_law_place_names", defArgs (top 60), defBody (top 60), defScope (top 60), [], []⟩
def dd21 : He.DefD := ⟨("_law_guard", none), "_law_guard", "_law_guard", defArgs (top 65), defBody (top 65), defScope (top 65), [], []⟩
def dd22 : He.DefD := ⟨("_law_limits_right", none), "_law_limits_right", "_law_limits_right", defArgs (top 81), defBody (top 81), defScope (top 81), [], []⟩
def dd23 : He.DefD := ⟨("_law_deep", none), "_law_deep", "_law_deep", defArgs (top 80), defBody (top 80), defScope (top 80), [], []⟩
def dd24 : He.DefD := ⟨("is_claim", none), "is_claim", "is_claim", defArgs (top 44), defBody (top 44), defScope (top 44), [], []⟩
def dd25 : He.DefD := ⟨("require_frame", none), "require_frame", "require_frame", defArgs (top 20), defBody (top 20), defScope (top 20), [], []⟩
def dd26 : He.DefD := ⟨("is_claim_for", none), "is_claim_for", "is_claim_for", defArgs (top 39), defBody (top 39), defScope (top 39), [], []⟩
def dd27 : He.DefD := ⟨("is_claim_in", none), "is_claim_in", "is_claim_in", defArgs (top 38), defBody (top 38), defScope (top 38), [], []⟩
def dd28 : He.DefD := ⟨("is_joined", none), "is_joined", "is_joined", defArgs (top 30), defBody (top 30), defScope (top 30), [], []⟩
def dd29 : He.DefD := ⟨("has_shape", none), "has_shape", "has_shape", defArgs (top 29), defBody (top 29), defScope (top 29), [], []⟩
def dd30 : He.DefD := ⟨("is_all_in", none), "is_all_in", "is_all_in", defArgs (top 37), defBody (top 37), defScope (top 37), [], []⟩
def dd31 : He.DefD := ⟨("are_own", none), "are_own", "are_own", defArgs (top 32), defBody (top 32), defScope (top 32), [], []⟩
def dd32 : He.DefD := ⟨("Frame", some "is_fresh"), "is_fresh", "Frame.is_fresh", defArgs (mth 18 8), defBody (mth 18 8), defScope (mth 18 8), [], []⟩
def dd33 : He.DefD := ⟨("is_guard_in", none), "is_guard_in", "is_guard_in", defArgs (top 35), defBody (top 35), defScope (top 35), [], []⟩
def dd34 : He.DefD := ⟨("is_op", none), "is_op", "is_op", defArgs (top 31), defBody (top 31), defScope (top 31), [], []⟩
def dd35 : He.DefD := ⟨("is_guard_term", none), "is_guard_term", "is_guard_term", defArgs (top 33), defBody (top 33), defScope (top 33), [], []⟩
def dd36 : He.DefD := ⟨("is_position", none), "is_position", "is_position", defArgs (top 22), defBody (top 22), defScope (top 22), [.adr (He.dflAt ("is_position", none) 0)], []⟩
def dd37 : He.DefD := ⟨("is_place_name", none), "is_place_name", "is_place_name", defArgs (top 21), defBody (top 21), defScope (top 21), [], []⟩
def dd38 : He.DefD := ⟨("has_kind", none), "has_kind", "has_kind", defArgs (top 19), defBody (top 19), defScope (top 19), [], []⟩
def dd39 : He.DefD := ⟨("Frame", some "__contains__"), "__contains__", "Frame.__contains__", defArgs (mth 18 14), defBody (mth 18 14), defScope (mth 18 14), [], []⟩
def dd40 : He.DefD := ⟨("is_integer", none), "is_integer", "is_integer", defArgs (top 12), defBody (top 12), defScope (top 12), [], []⟩
def dd41 : He.DefD := ⟨("is_body_in", none), "is_body_in", "is_body_in", defArgs (top 36), defBody (top 36), defScope (top 36), [], []⟩
def dd42 : He.DefD := ⟨("is_body_term", none), "is_body_term", "is_body_term", defArgs (top 34), defBody (top 34), defScope (top 34), [], []⟩
def dd43 : He.DefD := ⟨("is_value", none), "is_value", "is_value", defArgs (top 24), defBody (top 24), defScope (top 24), [.adr (He.dflAt ("is_value", none) 0)], []⟩
def dd44 : He.DefD := ⟨("is_cell", none), "is_cell", "is_cell", defArgs (top 23), defBody (top 23), defScope (top 23), [], []⟩
def dd45 : He.DefD := ⟨("claim_depth", none), "claim_depth", "claim_depth", defArgs (top 50), defBody (top 50), defScope (top 50), [], []⟩
def dd46 : He.DefD := ⟨("require_both", none), "require_both", "require_both", defArgs (top 49), defBody (top 49), defScope (top 49), [], []⟩
def dd47 : He.DefD := ⟨("require_claim", none), "require_claim", "require_claim", defArgs (top 48), defBody (top 48), defScope (top 48), [], []⟩
def dd48 : He.DefD := ⟨("depth_of", none), "depth_of", "depth_of", defArgs (top 41), defBody (top 41), defScope (top 41), [], []⟩
def dd49 : He.DefD := ⟨("claim_parts", none), "claim_parts", "claim_parts", defArgs (top 40), defBody (top 40), defScope (top 40), [], []⟩
def dd50 : He.DefD := ⟨("_law_all_judged", none), "_law_all_judged", "_law_all_judged", defArgs (top 77), defBody (top 77), defScope (top 77), [], []⟩
def dd51 : He.DefD := ⟨("_law_is_claim", none), "_law_is_claim", "_law_is_claim", defArgs (top 76), defBody (top 76), defScope (top 76), [], []⟩
def dd52 : He.DefD := ⟨("_law_are_joined", none), "_law_are_joined", "_law_are_joined", defArgs (top 67), defBody (top 67), defScope (top 67), [], []⟩
def dd53 : He.DefD := ⟨("_law_starts", none), "_law_starts", "_law_starts", defArgs (top 68), defBody (top 68), defScope (top 68), [], []⟩
def dd54 : He.DefD := ⟨("_law_is_op", none), "_law_is_op", "_law_is_op", defArgs (top 70), defBody (top 70), defScope (top 70), [], []⟩
def dd55 : He.DefD := ⟨("_law_is_body", none), "_law_is_body", "_law_is_body", defArgs (top 75), defBody (top 75), defScope (top 75), [], []⟩
def dd56 : He.DefD := ⟨("_law_is_worth", none), "_law_is_worth", "_law_is_worth", defArgs (top 74), defBody (top 74), defScope (top 74), [], []⟩
def dd57 : He.DefD := ⟨("_law_is_whole", none), "_law_is_whole", "_law_is_whole", defArgs (top 71), defBody (top 71), defScope (top 71), [], []⟩
def dd58 : He.DefD := ⟨("_law_is_place", none), "_law_is_place", "_law_is_place", defArgs (top 72), defBody (top 72), defScope (top 72), [], []⟩
def dd59 : He.DefD := ⟨("_law_are_own", none), "_law_are_own", "_law_are_own", defArgs (top 69), defBody (top 69), defScope (top 69), [], []⟩
def dd60 : He.DefD := ⟨("_law_is_guard", none), "_law_is_guard", "_law_is_guard", defArgs (top 73), defBody (top 73), defScope (top 73), [], []⟩
def dd61 : He.DefD := ⟨("is_guard", none), "is_guard", "is_guard", defArgs (top 46), defBody (top 46), defScope (top 46), [], []⟩
def dd62 : He.DefD := ⟨("require_own", none), "require_own", "require_own", defArgs (top 45), defBody (top 45), defScope (top 45), [], []⟩
def dd63 : He.DefD := ⟨("is_body", none), "is_body", "is_body", defArgs (top 47), defBody (top 47), defScope (top 47), [], []⟩
def dd64 : He.DefD := ⟨("_law_bent", none), "_law_bent", "_law_bent", defArgs (top 79), defBody (top 79), defScope (top 79), [], []⟩
def dd65 : He.DefD := ⟨("_law_odd", none), "_law_odd", "_law_odd", defArgs (top 78), defBody (top 78), defScope (top 78), [], []⟩
def fn0 : List He.DefD := [dd0, dd1, dd2, dd3, dd4, dd5, dd6, dd7, dd8, dd9, dd10, dd11, dd12, dd13, dd14, dd15, dd16]
def fn1 : List He.DefD := [dd17, dd18, dd19, dd20, dd21, dd22, dd23, dd24, dd25, dd26, dd27, dd28, dd29, dd30, dd31, dd32, dd33]
def fn2 : List He.DefD := [dd34, dd35, dd36, dd37, dd38, dd39, dd40, dd41, dd42, dd43, dd44, dd45, dd46, dd47, dd48, dd49, dd50]
def fn3 : List He.DefD := [dd51, dd52, dd53, dd54, dd55, dd56, dd57, dd58, dd59, dd60, dd61, dd62, dd63, dd64, dd65]
def fn : List He.DefD := fn0 ++ (fn1 ++ (fn2 ++ (fn3 ++ [])))
def fa : List He.Fa := [.glo "law", .glo "_law_keg", .glo "_law_sides", .glo "_law_choices", .glo "_law_tap", .glo "_law_choice", .glo "_law_frame_of", .glo "lengths_of", .glo "are_frame", .glo "are_names", .glo "is_name", .glo "is_array", .glo "_law_own_names", .glo "_law_all_names", .glo "_law_claim", .glo "_law_body", .glo "_law_worth", .glo "_law_place", .glo "_law_number", .glo "_law_place_names", .glo "_law_guard", .glo "_law_limits_right", .glo "_law_deep", .glo "is_claim", .glo "require_frame", .glo "is_claim_for", .glo "is_claim_in", .glo "is_joined", .glo "has_shape", .glo "is_all_in", .glo "are_own", .glo "is_guard_in", .glo "is_op", .glo "is_guard_term", .glo "is_position", .glo "is_place_name", .glo "has_kind", .glo "is_integer", .glo "is_body_in", .glo "is_body_term", .glo "is_value", .glo "is_cell", .glo "claim_depth", .glo "require_both", .glo "require_claim", .glo "depth_of", .glo "claim_parts", .glo "_law_all_judged", .glo "_law_is_claim", .glo "_law_are_joined", .glo "_law_starts", .glo "_law_is_op", .glo "_law_is_body", .glo "_law_is_worth", .glo "_law_is_whole", .glo "_law_is_place", .glo "_law_are_own", .glo "_law_is_guard", .glo "is_guard", .glo "require_own", .glo "is_body", .glo "_law_bent", .glo "_law_odd", .free "abs", .free "all", .free "bool", .free "dict", .free "int", .free "isinstance", .free "len", .free "list", .free "max", .free "min", .free "range", .free "repr", .free "set", .free "sorted", .free "str", .free "tuple", .int "DEEP" (100), .int "GREATEST" (1000000000000000000000000000000000000000000000000000000000000), .glo "GUARD_OPS", .str "LETTERS" (txS [97, 98, 99, 100, 101, 102, 103, 104, 105, 106, 107, 108, 109, 110, 111, 112, 113, 114, 115, 116, 117, 118, 119, 120, 121, 122]), .int "MAX_ARRAYS" (12), .int "MAX_DEPTH" (12), .int "MAX_NAME" (8), .int "MAX_OTHERS" (6), .glo "OPS", .glo "Frame", .mkr "Frame", .meth "Frame" "is_fresh"]
def tl (K : PySem.W.Frag) : List Bool := [tupAt K (He.ga K "GUARD_OPS") [.str (txS [60, 61]), .str (txS [61, 61])],
  tupAt K (He.ga K "OPS") [.str (txS [60, 61]), .str (txS [60]), .str (txS [61, 61])],
  sclsB K (ca K 0),
  sisiB K (ca K 0),
  ownB K (ca K 0) "__contains__",
  slotB K (ca K 0) "own_arrays" 0,
  slotB K (ca K 0) "own_kinds" 1,
  slotB K (ca K 0) "own_length" 2,
  slotB K (ca K 0) "own_lengths" 3,
  slotB K (ca K 0) "own_positions" 4,
  slotB K (ca K 0) "own_values" 5,
  tupAt K (He.dflAt ("is_position", none) 0 K) [],
  tupAt K (He.dflAt ("is_value", none) 0 K) []]
def ts (K : PySem.W.Frag) : Bool := (tl K).all id
theorem ts_at {K : PySem.W.Frag} (t : ts K = true) (j : Nat) {b : Bool} (e : (tl K)[j]? = some b) : b = true := List.all_eq_true.mp t b (List.mem_of_getElem? e)
abbrev R : PySem.W.OpenRow := PySem.W.OpenLaw.row PySem.Challenge.rw_cellswide_k05_claims_judged
abbrev hk : PySem.W.Hook := hookT 6 fa fn ts
def obv (s : PySem.W.SharedT) : He.AlD × Bool := obsT 6 fa fn ts (HandSHeadRun.getT s)
theorem ob_eq (s : PySem.W.SharedT) : obv s = hk.obs s.abs := obsT_eq (HandSHeadRun.getT_eq s)
def nm0 : List Str := ["_wall", "ClaimError", "InvalidFrame", "InvalidTerm", "InvalidClaim", "MAX_ARRAYS", "MAX_OTHERS", "MAX_NAME", "GREATEST", "LETTERS", "is_integer", "is_name", "are_names", "is_array", "lengths_of", "are_frame", "Frame", "has_kind", "require_frame", "is_place_name", "is_position", "is_cell", "is_value", "MAX_DEPTH", "OPS", "GUARD_OPS", "has_shape", "is_joined", "is_op", "are_own"]
def nm1 : List Str := ["is_guard_term", "is_body_term", "is_guard_in", "is_body_in", "is_all_in", "is_claim_in", "is_claim_for", "claim_parts", "depth_of", "DEEP", "is_claim", "require_own", "is_guard", "is_body", "require_claim", "require_both", "claim_depth", "_law_keg", "_law_tap", "_law_choices", "_law_choice", "_law_sides", "_law_frame_of", "_law_all_names", "_law_own_names", "_law_place_names", "_law_number", "_law_place", "_law_worth", "_law_body"]
def nm2 : List Str := ["_law_guard", "_law_claim", "_law_are_joined", "_law_starts", "_law_are_own", "_law_is_op", "_law_is_whole", "_law_is_place", "_law_is_guard", "_law_is_worth", "_law_is_body", "_law_is_claim", "_law_all_judged", "_law_odd", "_law_bent", "_law_deep", "_law_limits_right"]
def names : List Str := nm0 ++ nm1 ++ nm2
open HandSHeadRun PySem.W in
theorem rB (w : World) (os : OsState) : (HandSHeadRun.endF (HandSHeadRun.stepQ (HandSHeadRun.denQ HandSHeadRun.tabQ) R.prog w) 4000 R.prog w os).map (fun s => looksF R.prog (boot_heap w.params) s.abs) = some true := by kernel_rfl
open HandSHeadRun PySem.W in
theorem rC (w : World) (os : OsState) : (HandSHeadRun.endF (HandSHeadRun.stepQ (HandSHeadRun.denQ HandSHeadRun.tabQ) R.prog w) 4000 R.prog w os).map (fun s => seenQ (PySem.W.view R.prog [82]) names (importedModules R.prog.main.body) (fun s => xlAt (PySem.W.view R.prog [82]) [] s && recOk R.toRowW.records s) s.abs) = some (openGood (PySem.W.view R.prog [82]) names) := by kernel_rfl
theorem rF (w : World) (os : OsState) : (HandSHeadRun.endF (HandSHeadRun.stepQ (HandSHeadRun.denQ HandSHeadRun.tabQ) R.prog w) 4000 R.prog w os).map (fun s => fa.all fun f => f.ok (K0 6 s)) = some true := by kernel_rfl
theorem rT (w : World) (os : OsState) : (HandSHeadRun.endF (HandSHeadRun.stepQ (HandSHeadRun.denQ HandSHeadRun.tabQ) R.prog w) 4000 R.prog w os).map (fun s => ts (K0 6 s)) = some true := by kernel_rfl
theorem rN0 (w : World) (os : OsState) : (HandSHeadRun.endF (HandSHeadRun.stepQ (HandSHeadRun.denQ HandSHeadRun.tabQ) R.prog w) 4000 R.prog w os).map (fun s => (fn0.all (fun d => d.ok (K0 6 s)), fn0.map fun d => He.fnW (K0 6 s) d.at_)) = some (true, fn0.map He.DefD.val) := by kernel_rfl
theorem rN1 (w : World) (os : OsState) : (HandSHeadRun.endF (HandSHeadRun.stepQ (HandSHeadRun.denQ HandSHeadRun.tabQ) R.prog w) 4000 R.prog w os).map (fun s => (fn1.all (fun d => d.ok (K0 6 s)), fn1.map fun d => He.fnW (K0 6 s) d.at_)) = some (true, fn1.map He.DefD.val) := by kernel_rfl
theorem rN2 (w : World) (os : OsState) : (HandSHeadRun.endF (HandSHeadRun.stepQ (HandSHeadRun.denQ HandSHeadRun.tabQ) R.prog w) 4000 R.prog w os).map (fun s => (fn2.all (fun d => d.ok (K0 6 s)), fn2.map fun d => He.fnW (K0 6 s) d.at_)) = some (true, fn2.map He.DefD.val) := by kernel_rfl
theorem rN3 (w : World) (os : OsState) : (HandSHeadRun.endF (HandSHeadRun.stepQ (HandSHeadRun.denQ HandSHeadRun.tabQ) R.prog w) 4000 R.prog w os).map (fun s => (fn3.all (fun d => d.ok (K0 6 s)), fn3.map fun d => He.fnW (K0 6 s) d.at_)) = some (true, fn3.map He.DefD.val) := by kernel_rfl
theorem run (w : World) : HandSHeadRun.RunEq R (PySem.W.view R.prog [82]) hk obv 4000 names w := run_join (n := 6) (fa := fa) (fn := fn) (fns := [fn0, fn1, fn2, fn3]) (ts := ts) rfl (rB w) (rC w) (rF w) (rT w) (fun l hl os => by
  simp only [List.mem_cons, List.not_mem_nil, or_false] at hl
  rcases hl with rfl | rfl | rfl | rfl
  · exact rN0 w os
  · exact rN1 w os
  · exact rN2 w os
  · exact rN3 w os)
end k05

set_option maxRecDepth 100000
namespace Lt
open PySem PySem.Spec PyProof.Rows L2

/-- a text by its signs; a dict's key -/
abbrev Tx := List Nat
abbrev sx (x : Tx) : Str := ⟨x.toArray⟩
abbrev DK := Sum Int Tx
def dk : DK → Key
  | .inl i => .inl i
  | .inr x => .inr (sx x)
/-- data: what never changes (lists, dicts and instances that are not written any more, too), and places of things that change -/
inductive PV where
  | non | bl (b : Bool) | int (i : Int) | str (x : Tx)
  | tup (l : List PV) | lst (l : List PV) | dct (ks : List DK) (l : List PV) | obj (c : Nat) (l : List PV)
  | ref (n : Nat) | scr (l : List Int) | rtx (d : PyData)
  /-- a tuple of which is known that it has no dict of its own -/
  | ptup (l : List PV)
/-- what changes -/
inductive PO where
  | lst (l : List PV) | dct (ks : List DK) (l : List PV) | ins (c : Nat) (l : List (Option PV))
abbrev PH := List PO
/-- the places of what changes (an instance's own dict is its second) -/
structure Pl where
  l : List (Addr × Addr)
  x : List Addr
/-- a is none of the places, and nothing that is kept apart -/
def Off (φ : Pl) (a : Addr) : Prop := (∀ p ∈ φ.l, a ≠ p.1 ∧ a ≠ p.2) ∧ a ∉ φ.x

/-- a thing that stands and is none of those that change -/
def Fix (φ : Pl) (H : Hp) (a : Addr) (u : HO) : Prop := Rd H a u ∧ Off φ a
def Fx1 (φ : Pl) (H : Hp) (a : Addr) (u : HO) : Prop := H a = some u ∧ Off φ a
def KT (K : PySem.W.Frag) (a : Addr) (xs : List V) : Prop :=
  ∃ (o : Obj) (its : Array Value) (n : Nat), K.lookup a = some o ∧ o.cls = .type "tuple" ∧ o.data = .seq its n ∧ its.size ≤ sizeLine ∧ Vals xs its.toList

def KL (K : PySem.W.Frag) (a : Addr) (xs : List V) : Prop :=
  ∃ (o : Obj) (its : Array Value) (n : Nat), K.lookup a = some o ∧ o.cls = .type "list" ∧ o.dict = none ∧ o.data = .seq its n ∧ its.size ≤ sizeLine ∧ Vals xs its.toList
/-- the classes' addresses -/
abbrev CA := Nat → Addr
section
variable (K : PySem.W.Frag) (ca : CA)
mutual
def RV (φ : Pl) (H : Hp) : PV → V → Prop
  | .non, v => v = .non
  | .bl b, v => v = .bl b
  | .int i, v => v = .int i
  | .str x, v => v = .str (sx x) ∧ x.length ≤ sizeLine ∧ x.all (· < 0x110000) = true
  | .tup l, v => ∃ a vs, v = .ref a ∧ (Fix φ H a (.tup vs) ∨ KT K a vs) ∧ l.length ≤ sizeLine ∧ RVs φ H l vs
  | .ptup l, v => ∃ a vs, v = .ref a ∧ (∃ o, o.dict = none ∧ Fx1 φ H a (.frz o (.tup vs))) ∧ l.length ≤ sizeLine ∧ RVs φ H l vs
  | .lst l, v => ∃ a vs, v = .ref a ∧ Fx1 φ H a (.lst vs) ∧ l.length ≤ sizeLine ∧ RVs φ H l vs
  | .dct ks l, v => ∃ a vs, v = .ref a ∧ Fix φ H a (.dK ((ks.map dk).zip vs)) ∧ ks.length = l.length ∧ RVs φ H l vs
  | .obj c l, v => ∃ a dx vs, v = .ref a ∧ H a = some (SlX.SlO a (ca c) dx (vs.map some)) ∧ H dx = some (.xd []) ∧ Off φ a ∧ Off φ dx ∧ RVs φ H l vs
  | .ref n, v => ∃ p, φ.l[n]? = some p ∧ v = .ref p.1
  | .rtx d, v => v = .str d.shown
  | .scr l, v => ∃ a, v = .ref a ∧ (((∃ o, H a = some (.frz o (.lst (l.map V.int)))) ∧ Off φ a) ∨ KL K a (l.map V.int)) ∧ l.length ≤ 63
def RVs (φ : Pl) (H : Hp) : List PV → List V → Prop
  | [], vs => vs = []
  | x :: l, vs => ∃ v r, vs = v :: r ∧ RV φ H x v ∧ RVs φ H l r
end
/-- a slot: what is not known may be anything -/
def RO1 (φ : Pl) (H : Hp) : Option PV → Option V → Prop
  | some x, some v => RV K ca φ H x v
  | none, _ => True
  | _, _ => False
def ROs (φ : Pl) (H : Hp) : List (Option PV) → List (Option V) → Prop
  | [], vs => vs = []
  | x :: l, vs => ∃ v r, vs = v :: r ∧ RO1 K ca φ H x v ∧ ROs φ H l r
def RO (φ : Pl) (H : Hp) (p : Addr × Addr) : PO → Prop
  | .lst l => (p.2 = p.1 ∧ l.length ≤ sizeLine) ∧ ∃ vs, H p.1 = some (.lst vs) ∧ RVs K ca φ H l vs
  | .dct ks l => p.2 = p.1 ∧ ∃ vs, H p.1 = some (.dK ((ks.map dk).zip vs)) ∧ ks.length = l.length ∧ RVs K ca φ H l vs
  | .ins c l => (p.2 ≠ p.1 ∧ ∃ u, H p.2 = some u) ∧ ∃ vs, SlX.Slt H p.1 (ca c) p.2 vs ∧ ROs K ca φ H l vs
structure RH (φ : Pl) (h : PH) (H : Hp) : Prop where
  len : φ.l.length = h.length
  at_ : ∀ (n : Nat) (o : PO), h[n]? = some o → ∃ p, φ.l[n]? = some p ∧ RO K ca φ H p o
  sep : ∀ (n m : Nat) (p q : Addr × Addr), n ≠ m → φ.l[n]? = some p → φ.l[m]? = some q → p.1 ≠ q.1 ∧ p.1 ≠ q.2 ∧ p.2 ≠ q.1 ∧ p.2 ≠ q.2
  hid : ∀ p ∈ φ.l, p.1 ∉ φ.x ∧ p.2 ∉ φ.x
  prv : ∀ d ∈ φ.x, ∃ u, H d = some u
/-- what a step leaves: places may be more, what stood and is none of them stays -/
structure Ext0 (φ : Pl) (H : Hp) (φ' : Pl) (H' : Hp) : Prop where
  pre : ∃ r, φ'.l = φ.l ++ r
  keep : ∀ a o, H a = some o → Off φ a → H' a = some o ∧ Off φ' a
/-- .. and what is kept apart stays -/
structure Ext (φ : Pl) (H : Hp) (φ' : Pl) (H' : Hp) : Prop extends Ext0 φ H φ' H' where
  keepx : ∀ d ∈ φ.x, d ∈ φ'.x ∧ ∀ u, H d = some u → H' d = some u
instance {φ φ' : Pl} {H H' : Hp} : Coe (Ext φ H φ' H') (Ext0 φ H φ' H') := ⟨Ext.toExt0⟩
end

section
variable {K : PySem.W.Frag} {ca : CA} {φ φ' φ2 : Pl} {H H' H2 : Hp}
theorem Ext0.refl : Ext0 φ H φ H := ⟨⟨[], by simp⟩, fun _ _ h o => ⟨h, o⟩⟩
theorem Ext.refl : Ext φ H φ H := ⟨Ext0.refl, fun _ h => ⟨h, fun _ e => e⟩⟩
theorem Ext0.trans (x : Ext0 φ H φ' H') (y : Ext0 φ' H' φ2 H2) : Ext0 φ H φ2 H2 := by
  obtain ⟨r, e⟩ := x.pre
  obtain ⟨r2, e2⟩ := y.pre
  exact ⟨⟨r ++ r2, by rw [e2, e, List.append_assoc]⟩, fun a o h f => let ⟨h1, f1⟩ := x.keep a o h f; y.keep a o h1 f1⟩
theorem Ext.trans (x : Ext φ H φ' H') (y : Ext φ' H' φ2 H2) : Ext φ H φ2 H2 :=
  ⟨x.toExt0.trans y.toExt0, fun d hd => let ⟨d1, k1⟩ := x.keepx d hd; let ⟨d2, k2⟩ := y.keepx d d1; ⟨d2, fun u e => k2 u (k1 u e)⟩⟩
theorem Ext0.get (x : Ext0 φ H φ' H') {n : Nat} {p : Addr × Addr} (h : φ.l[n]? = some p) : φ'.l[n]? = some p := by
  obtain ⟨r, e⟩ := x.pre
  have hn : n < φ.l.length := (List.getElem?_eq_some_iff.mp h).1
  rw [e, List.getElem?_append_left hn]
  exact h
theorem Fx1.ext (x : Ext0 φ H φ' H') {a : Addr} {u : HO} (f : Fx1 φ H a u) : Fx1 φ' H' a u := x.keep a u f.1 f.2
theorem Fix.ext (x : Ext0 φ H φ' H') {a : Addr} {u : HO} (f : Fix φ H a u) : Fix φ' H' a u := by
  obtain ⟨r, o⟩ := f
  rcases r with r | ⟨ob, r⟩
  · obtain ⟨h1, h2⟩ := x.keep a _ r o
    exact ⟨.inl h1, h2⟩
  · obtain ⟨h1, h2⟩ := x.keep a _ r o
    exact ⟨.inr ⟨ob, h1⟩, h2⟩

mutual
theorem RV.ext (x : Ext0 φ H φ' H') : ∀ (d : PV) (v : V), RV K ca φ H d v → RV K ca φ' H' d v
  | .ptup l, v, h => by
    obtain ⟨a, vs, e, ⟨o, d, f⟩, z, r⟩ := h
    exact ⟨a, vs, e, ⟨o, d, f.ext x⟩, z, RVs.ext x l vs r⟩
  | .non, _, h => h
  | .bl _, _, h => h
  | .int _, _, h => h
  | .str _, _, h => h
  | .tup l, v, h => by
    obtain ⟨a, vs, e, f, z, r⟩ := h
    exact ⟨a, vs, e, f.imp (fun f => f.ext x) id, z, RVs.ext x l vs r⟩
  | .lst l, v, h => by
    obtain ⟨a, vs, e, f, z, r⟩ := h
    exact ⟨a, vs, e, f.ext x, z, RVs.ext x l vs r⟩
  | .dct ks l, v, h => by
    obtain ⟨a, vs, e, f, z, r⟩ := h
    exact ⟨a, vs, e, f.ext x, z, RVs.ext x l vs r⟩
  | .obj c l, v, h => by
    obtain ⟨a, dx, vs, e, h1, h2, o1, o2, r⟩ := h
    obtain ⟨k1, k2⟩ := x.keep a _ h1 o1
    obtain ⟨k3, k4⟩ := x.keep dx _ h2 o2
    exact ⟨a, dx, vs, e, k1, k3, k2, k4, RVs.ext x l vs r⟩
  | .ref n, v, h => by
    obtain ⟨p, e, f⟩ := h
    exact ⟨p, x.get e, f⟩
  | .rtx _, _, h => h
  | .scr l, v, h => by
    obtain ⟨a, e, f, z⟩ := h
    refine ⟨a, e, f.imp (fun f => ?_) id, z⟩
    obtain ⟨⟨o, f⟩, g⟩ := f
    obtain ⟨k1, k2⟩ := x.keep a _ f g
    exact ⟨⟨o, k1⟩, k2⟩
theorem RVs.ext (x : Ext0 φ H φ' H') : ∀ (l : List PV) (vs : List V), RVs K ca φ H l vs → RVs K ca φ' H' l vs
  | [], _, h => h
  | d :: l, vs, h => by
    obtain ⟨v, r, e, h1, h2⟩ := h
    exact ⟨v, r, e, RV.ext x d v h1, RVs.ext x l r h2⟩
end
theorem RO1.ext (x : Ext0 φ H φ' H') {d : Option PV} {v : Option V} (h : RO1 K ca φ H d v) : RO1 K ca φ' H' d v := by
  cases d with
  | none => exact trivial
  | some d => cases v with
    | none => exact h
    | some v => exact RV.ext x d v h
theorem ROs.ext (x : Ext0 φ H φ' H') : ∀ (l : List (Option PV)) (vs : List (Option V)), ROs K ca φ H l vs → ROs K ca φ' H' l vs
  | [], _, h => h
  | d :: l, vs, h => by
    obtain ⟨v, r, e, h1, h2⟩ := h
    exact ⟨v, r, e, h1.ext x, ROs.ext x l r h2⟩
theorem RVs.length : ∀ {l : List PV} {vs : List V}, RVs K ca φ H l vs → l.length = vs.length
  | [], vs, h => by
    have e : vs = [] := h
    rw [e]
    rfl
  | d :: l, vs, h => by
    obtain ⟨v, r, e, h1, h2⟩ := h
    rw [e, List.length_cons, List.length_cons, RVs.length h2]
theorem RVs.get : ∀ {l : List PV} {vs : List V} {i : Nat} {d : PV}, RVs K ca φ H l vs → l[i]? = some d → ∃ v, vs[i]? = some v ∧ RV K ca φ H d v
  | [], _, _, _, _, e => by simp at e
  | d :: l, vs, 0, d', h, e => by
    obtain ⟨v, r, e1, h1, h2⟩ := h
    simp at e
    subst e e1
    exact ⟨v, rfl, h1⟩
  | d :: l, vs, i + 1, d', h, e => by
    obtain ⟨v, r, e1, h1, h2⟩ := h
    subst e1
    obtain ⟨u, e2, r2⟩ := RVs.get (i := i) h2 (by simpa using e)
    exact ⟨u, by simpa using e2, r2⟩
theorem RVs.append : ∀ {l m : List PV} {vs us : List V}, RVs K ca φ H l vs → RVs K ca φ H m us → RVs K ca φ H (l ++ m) (vs ++ us)
  | [], m, vs, us, h, g => by
    have e : vs = [] := h
    rw [e]
    exact g
  | d :: l, m, vs, us, h, g => by
    obtain ⟨v, r, e1, h1, h2⟩ := h
    subst e1
    exact ⟨v, r ++ us, rfl, h1, RVs.append h2 g⟩
theorem RVs.one {d : PV} {v : V} (h : RV K ca φ H d v) : RVs K ca φ H [d] [v] := ⟨v, [], rfl, h, rfl⟩
theorem RVs.cons {d : PV} {v : V} {l : List PV} {vs : List V} (h : RV K ca φ H d v) (g : RVs K ca φ H l vs) : RVs K ca φ H (d :: l) (v :: vs) := ⟨v, vs, rfl, h, g⟩
theorem RVs.set : ∀ {l : List PV} {vs : List V} (i : Nat) {d : PV} {v : V}, RVs K ca φ H l vs → RV K ca φ H d v → RVs K ca φ H (l.set i d) (vs.set i v)
  | [], vs, i, d, v, h, g => by
    have e : vs = [] := h
    subst e
    exact rfl
  | d0 :: l, vs, 0, d, v, h, g => by
    obtain ⟨v0, r, e1, h1, h2⟩ := h
    subst e1
    exact ⟨v, r, rfl, g, h2⟩
  | d0 :: l, vs, i + 1, d, v, h, g => by
    obtain ⟨v0, r, e1, h1, h2⟩ := h
    subst e1
    exact ⟨v0, r.set i v, rfl, h1, RVs.set i h2 g⟩
theorem RVs.take : ∀ {l : List PV} {vs : List V} (n : Nat), RVs K ca φ H l vs → RVs K ca φ H (l.take n) (vs.take n)
  | l, vs, 0, h => by
    rw [List.take_zero, List.take_zero]
    exact rfl
  | [], vs, n + 1, h => by
    have e : vs = [] := h
    subst e
    exact rfl
  | d :: l, vs, n + 1, h => by
    obtain ⟨v, r, e1, h1, h2⟩ := h
    subst e1
    exact ⟨v, r.take n, rfl, h1, RVs.take n h2⟩
theorem RVs.drop : ∀ {l : List PV} {vs : List V} (n : Nat), RVs K ca φ H l vs → RVs K ca φ H (l.drop n) (vs.drop n)
  | l, vs, 0, h => by
    rw [List.drop_zero, List.drop_zero]
    exact h
  | [], vs, n + 1, h => by
    have e : vs = [] := h
    subst e
    exact rfl
  | d :: l, vs, n + 1, h => by
    obtain ⟨v, r, e1, h1, h2⟩ := h
    subst e1
    exact RVs.drop n h2
end

section
variable {K : PySem.W.Frag} {ca : CA} {φ φ' : Pl} {h : PH} {H H' : Hp}
theorem RO.ext (x : Ext0 φ H φ' H') {p : Addr × Addr} {o : PO} (e1 : H' p.1 = H p.1) (e2 : H' p.2 = H p.2) (r : RO K ca φ H p o) : RO K ca φ' H' p o := by
  cases o with
  | lst l =>
    obtain ⟨z, vs, q, r⟩ := r
    exact ⟨z, vs, e1.trans q, RVs.ext x l vs r⟩
  | dct ks l =>
    obtain ⟨z, vs, q, y, r⟩ := r
    exact ⟨z, vs, e1.trans q, y, RVs.ext x l vs r⟩
  | ins c l =>
    obtain ⟨⟨z, u, y⟩, vs, q, r⟩ := r
    refine ⟨⟨z, u, e2.trans y⟩, vs, ?_, ROs.ext x l vs r⟩
    rcases q with ⟨q1, q2⟩ | ⟨q1, q2⟩
    · exact .inl ⟨e1.trans q1, q2⟩
    · exact .inr ⟨e1.trans q1, e2.trans q2⟩
/-- what stands at a place -/
theorem RO.some {p : Addr × Addr} {o : PO} (r : RO K ca φ H p o) : (∃ u, H p.1 = some u) ∧ ∃ u, H p.2 = some u := by
  cases o with
  | lst l => obtain ⟨⟨z, _⟩, vs, q, _⟩ := r; exact ⟨⟨_, q⟩, _, by rw [z]; exact q⟩
  | dct ks l => obtain ⟨z, vs, q, _⟩ := r; exact ⟨⟨_, q⟩, _, by rw [z]; exact q⟩
  | ins c l =>
    obtain ⟨⟨_, y⟩, vs, q, _⟩ := r
    refine ⟨?_, y⟩
    rcases q with ⟨q1, q2⟩ | ⟨q1, q2⟩ <;> exact ⟨_, q1⟩
theorem RH.pl (r : RH K ca φ h H) {n : Nat} {p : Addr × Addr} (e : φ.l[n]? = some p) : ∃ o, h[n]? = some o ∧ RO K ca φ H p o := by
  have hn : n < φ.l.length := (List.getElem?_eq_some_iff.mp e).1
  have hn' : n < h.length := by rw [← r.len]; exact hn
  obtain ⟨q, e2, ro⟩ := r.at_ n _ (List.getElem?_eq_getElem hn')
  rw [e] at e2
  cases e2
  exact ⟨_, List.getElem?_eq_getElem hn', ro⟩
theorem RH.there (r : RH K ca φ h H) {p : Addr × Addr} (e : p ∈ φ.l) : (∃ u, H p.1 = some u) ∧ ∃ u, H p.2 = some u := by
  obtain ⟨n, e⟩ := List.getElem?_of_mem e
  obtain ⟨o, _, ro⟩ := r.pl e
  exact ro.some
theorem RH.off (r : RH K ca φ h H) {a : Addr} (e : H a = none) : Off φ a := ⟨fun p hp => by
  obtain ⟨⟨u, e1⟩, v, e2⟩ := r.there hp
  exact ⟨fun z => (by rw [← z, e] at e1; cases e1), fun z => (by rw [← z, e] at e2; cases e2)⟩, fun hd => by
  obtain ⟨u, e1⟩ := r.prv a hd
  rw [e] at e1
  cases e1⟩
/-- a new thing that is none of the places -/
theorem Ext.new {p : Addr} {o : HO} (hp : H p = none) : Ext φ H φ (upd H p o) :=
  ⟨⟨⟨[], by simp⟩, fun a u e f => ⟨by rw [upd_ne (ne_of_none e hp)]; exact e, f⟩⟩, fun d hd => ⟨hd, fun u e => by rw [upd_ne (ne_of_none e hp)]; exact e⟩⟩
theorem RH.new (r : RH K ca φ h H) {p : Addr} {o : HO} (hp : H p = none) : RH K ca φ h (upd H p o) := by
  refine ⟨r.len, fun n q e => ?_, r.sep, r.hid, fun d hd => ?_⟩
  · obtain ⟨pl, e1, ro⟩ := r.at_ n q e
    obtain ⟨⟨u, e2⟩, v, e3⟩ := ro.some
    exact ⟨pl, e1, ro.ext (Ext.new hp).toExt0 (upd_ne (ne_of_none e2 hp)) (upd_ne (ne_of_none e3 hp))⟩
  · obtain ⟨u, e⟩ := r.prv d hd
    exact ⟨u, by rw [upd_ne (ne_of_none e hp)]; exact e⟩
/-- a new place -/
def Pl.and (φ : Pl) (p : Addr × Addr) : Pl := ⟨φ.l ++ [p], φ.x⟩
theorem Ext.make {p : Addr × Addr} (h1 : H p.1 = none) (h2 : H p.2 = none) (kp : ∀ b, b ≠ p.1 → b ≠ p.2 → H' b = H b) : Ext φ H (φ.and p) H' :=
  ⟨⟨⟨[p], rfl⟩, fun a u e f => ⟨by rw [kp a (ne_of_none e h1) (ne_of_none e h2)]; exact e, fun q hq => by
    rcases List.mem_append.mp hq with hq | hq
    · exact f.1 q hq
    · rw [List.mem_singleton] at hq
      subst hq
      exact ⟨ne_of_none e h1, ne_of_none e h2⟩, f.2⟩⟩, fun d hd => ⟨hd, fun u e => by rw [kp d (ne_of_none e h1) (ne_of_none e h2)]; exact e⟩⟩
theorem RH.make (r : RH K ca φ h H) {p : Addr × Addr} {o : PO} (h1 : H p.1 = none) (h2 : H p.2 = none) (kp : ∀ b, b ≠ p.1 → b ≠ p.2 → H' b = H b) (new : RO K ca (φ.and p) H' p o) : RH K ca (φ.and p) (h ++ [o]) H' := by
  have off : ∀ (n : Nat) (q : Addr × Addr), φ.l[n]? = some q → q.1 ≠ p.1 ∧ q.1 ≠ p.2 ∧ q.2 ≠ p.1 ∧ q.2 ≠ p.2 := fun n q e => by
    obtain ⟨⟨u, e1⟩, v, e2⟩ := r.there (List.mem_of_getElem? e)
    exact ⟨ne_of_none e1 h1, ne_of_none e1 h2, ne_of_none e2 h1, ne_of_none e2 h2⟩
  have hl : (φ.and p).l = φ.l ++ [p] := rfl
  refine ⟨by rw [hl, List.length_append, List.length_append, r.len]; rfl, fun n q e => ?_, fun n m q q' hne e e' => ?_, fun q hq => ?_, fun d hd => ?_⟩
  · by_cases hn : n < h.length
    · rw [List.getElem?_append_left hn] at e
      obtain ⟨pl, e1, ro⟩ := r.at_ n q e
      obtain ⟨z1, z2, z3, z4⟩ := off n pl e1
      refine ⟨pl, ?_, ro.ext (Ext.make h1 h2 kp).toExt0 (kp _ z1 z2) (kp _ z3 z4)⟩
      rw [hl, List.getElem?_append_left (by rw [r.len]; exact hn)]
      exact e1
    · rw [List.getElem?_append_right (by omega)] at e
      have hz : n - h.length = 0 := by
        have := (List.getElem?_eq_some_iff.mp e).1
        simp only [List.length_singleton] at this
        omega
      rw [hz] at e
      cases e
      refine ⟨p, ?_, new⟩
      rw [hl, List.getElem?_append_right (by rw [r.len]; omega), r.len, hz]
      rfl
  · have hp : ∀ {i : Nat} {z : Addr × Addr}, (φ.and p).l[i]? = some z → φ.l[i]? = some z ∨ (i = φ.l.length ∧ z = p) := fun {i z} e => by
      rw [hl] at e
      by_cases hi : i < φ.l.length
      · rw [List.getElem?_append_left hi] at e
        exact .inl e
      · rw [List.getElem?_append_right (by omega)] at e
        have hz : i - φ.l.length = 0 := by
          have := (List.getElem?_eq_some_iff.mp e).1
          simp only [List.length_singleton] at this
          omega
        rw [hz] at e
        cases e
        exact .inr ⟨by omega, rfl⟩
    rcases hp e with x | ⟨en, x⟩
    · rcases hp e' with y | ⟨em, y⟩
      · exact r.sep n m q q' hne x y
      · obtain ⟨z1, z2, z3, z4⟩ := off n q x
        rw [y]
        exact ⟨z1, z2, z3, z4⟩
    · rcases hp e' with y | ⟨em, y⟩
      · obtain ⟨z1, z2, z3, z4⟩ := off m q' y
        rw [x]
        exact ⟨z1.symm, z3.symm, z2.symm, z4.symm⟩
      · exact absurd (en.trans em.symm) hne
  · rw [hl] at hq
    rcases List.mem_append.mp hq with hq | hq
    · exact r.hid q hq
    · rw [List.mem_singleton] at hq
      subst hq
      exact ⟨(r.off h1).2, (r.off h2).2⟩
  · obtain ⟨u, e⟩ := r.prv d hd
    exact ⟨u, by rw [kp d (ne_of_none e h1) (ne_of_none e h2)]; exact e⟩
/-- a place is written -/
theorem Ext0.change {n : Nat} {p : Addr × Addr} (e : φ.l[n]? = some p) (kp : ∀ b, b ≠ p.1 → b ≠ p.2 → H' b = H b) : Ext0 φ H φ H' :=
  ⟨⟨[], by simp⟩, fun a u q f => ⟨by
    obtain ⟨z1, z2⟩ := f.1 p (List.mem_of_getElem? e)
    rw [kp a z1 z2]
    exact q, f⟩⟩
theorem RH.changes (r : RH K ca φ h H) {n : Nat} {p : Addr × Addr} (e : φ.l[n]? = some p) (kp : ∀ b, b ≠ p.1 → b ≠ p.2 → H' b = H b) : Ext φ H φ H' :=
  ⟨Ext0.change e kp, fun d hd => ⟨hd, fun u q => by
    obtain ⟨z1, z2⟩ := r.hid p (List.mem_of_getElem? e)
    rw [kp d (fun z => z1 (z ▸ hd)) (fun z => z2 (z ▸ hd))]
    exact q⟩⟩
theorem RH.change (r : RH K ca φ h H) {n : Nat} {p : Addr × Addr} {o : PO} (e : φ.l[n]? = some p) (kp : ∀ b, b ≠ p.1 → b ≠ p.2 → H' b = H b) (new : RO K ca φ H' p o) : RH K ca φ (h.set n o) H' := by
  refine ⟨by rw [List.length_set]; exact r.len, fun m q e1 => ?_, r.sep, r.hid, fun d hd => ?_⟩
  · by_cases hm : m = n
    · subst hm
      have hn : m < h.length := by rw [← r.len]; exact (List.getElem?_eq_some_iff.mp e).1
      rw [List.getElem?_set_self hn] at e1
      cases e1
      exact ⟨p, e, new⟩
    · rw [List.getElem?_set_ne (Ne.symm hm)] at e1
      obtain ⟨pl, e2, ro⟩ := r.at_ m q e1
      obtain ⟨z1, z2, z3, z4⟩ := r.sep m n pl p hm e2 e
      exact ⟨pl, e2, ro.ext (Ext0.change e kp) (kp _ z1 z2) (kp _ z3 z4)⟩
  · obtain ⟨u, q⟩ := r.prv d hd
    exact ⟨u, ((r.changes e kp).keepx d hd).2 u q⟩
/-- what does not touch the places -/
theorem RH.keep (r : RH K ca φ h H) {x : List Addr} (y : Ext0 φ H ⟨φ.l, x⟩ H') (kp : ∀ p ∈ φ.l, H' p.1 = H p.1 ∧ H' p.2 = H p.2) (hid : ∀ p ∈ φ.l, p.1 ∉ x ∧ p.2 ∉ x) (prv : ∀ d ∈ x, ∃ u, H' d = some u) : RH K ca ⟨φ.l, x⟩ h H' := by
  refine ⟨r.len, fun n o e => ?_, r.sep, hid, prv⟩
  obtain ⟨pl, e1, ro⟩ := r.at_ n o e
  obtain ⟨k1, k2⟩ := kp pl (List.mem_of_getElem? e1)
  exact ⟨pl, e1, ro.ext y k1 k2⟩
/-- a new thing that is kept apart -/
theorem Ext.hide {d : Addr} {o : HO} (hd : H d = none) : Ext φ H ⟨φ.l, d :: φ.x⟩ (upd H d o) :=
  ⟨⟨⟨[], by simp⟩, fun a u e f => ⟨by rw [upd_ne (ne_of_none e hd)]; exact e, f.1, fun z => by
    rcases List.mem_cons.mp z with z | z
    · rw [z, hd] at e; cases e
    · exact f.2 z⟩⟩, fun b hb => ⟨List.mem_cons_of_mem _ hb, fun u e => by rw [upd_ne (ne_of_none e hd)]; exact e⟩⟩
theorem RH.hide (r : RH K ca φ h H) {d : Addr} {o : HO} (hd : H d = none) : RH K ca ⟨φ.l, d :: φ.x⟩ h (upd H d o) := by
  refine r.keep (Ext.hide hd).toExt0 (fun p hp => ?_) (fun p hp => ?_) fun b hb => ?_
  · obtain ⟨⟨u, e1⟩, v, e2⟩ := r.there hp
    exact ⟨upd_ne (ne_of_none e1 hd), upd_ne (ne_of_none e2 hd)⟩
  · obtain ⟨⟨u, e1⟩, v, e2⟩ := r.there hp
    obtain ⟨h1, h2⟩ := r.hid p hp
    exact ⟨fun z => (List.mem_cons.mp z).elim (fun z => ne_of_none e1 hd z) h1, fun z => (List.mem_cons.mp z).elim (fun z => ne_of_none e2 hd z) h2⟩
  · rcases List.mem_cons.mp hb with z | z
    · exact ⟨o, by rw [z, upd_same]⟩
    · obtain ⟨u, e⟩ := r.prv b z
      exact ⟨u, by rw [upd_ne (ne_of_none e hd)]; exact e⟩
/-- it is written -/
theorem Ext0.put {d : Addr} {o : HO} (hd : d ∈ φ.x) : Ext0 φ H φ (upd H d o) :=
  ⟨⟨[], by simp⟩, fun a u e f => ⟨by rw [upd_ne (fun z => f.2 (by rw [z]; exact hd))]; exact e, f⟩⟩
theorem RH.put (r : RH K ca φ h H) {d : Addr} {o : HO} (hd : d ∈ φ.x) : RH K ca φ h (upd H d o) := by
  refine r.keep (x := φ.x) (Ext0.put hd) (fun p hp => ?_) r.hid fun b hb => ?_
  · obtain ⟨h1, h2⟩ := r.hid p hp
    exact ⟨upd_ne (fun z => h1 (by rw [z]; exact hd)), upd_ne (fun z => h2 (by rw [z]; exact hd))⟩
  · by_cases hb' : b = d
    · exact ⟨o, by rw [hb', upd_same]⟩
    · obtain ⟨u, e⟩ := r.prv b hb
      exact ⟨u, by rw [upd_ne hb']; exact e⟩
/-- it is kept apart no longer -/
theorem Ext0.show {l : List (Addr × Addr)} {x x' : List Addr} (hx : ∀ d ∈ x', d ∈ x) : Ext0 ⟨l, x⟩ H ⟨l, x'⟩ H := ⟨⟨[], by simp⟩, fun _ _ e f => ⟨e, f.1, fun z => f.2 (hx _ z)⟩⟩
theorem RH.show {l : List (Addr × Addr)} {x x' : List Addr} (r : RH K ca ⟨l, x⟩ h H) (hx : ∀ d ∈ x', d ∈ x) : RH K ca ⟨l, x'⟩ h H :=
  r.keep (Ext0.show hx) (fun _ _ => ⟨rfl, rfl⟩) (fun p hp => ⟨fun z => (r.hid p hp).1 (hx _ z), fun z => (r.hid p hp).2 (hx _ z)⟩) fun d hd => r.prv d (hx _ hd)
end

mutual
def PV.cl (n : Nat) : PV → Bool
  | .tup l => PV.cls n l
  | .ptup l => PV.cls n l
  | .lst l => PV.cls n l
  | .dct _ l => PV.cls n l
  | .obj _ l => PV.cls n l
  | .ref m => decide (m < n)
  | _ => true
def PV.cls (n : Nat) : List PV → Bool
  | [] => true
  | x :: l => PV.cl n x && PV.cls n l
end
def PO.cl (n : Nat) : PO → Bool
  | .lst l => PV.cls n l
  | .dct _ l => PV.cls n l
  | .ins _ l => l.all fun x => match x with | some d => d.cl n | none => true
section
variable {K : PySem.W.Frag} {ca : CA} {φ φ' : Pl} {h : PH} {H H' : Hp}
/-- fewer places -/
theorem Off.less {r : List (Addr × Addr)} {l : List (Addr × Addr)} {x : List Addr} {a : Addr} (o : Off ⟨l ++ r, x⟩ a) : Off ⟨l, x⟩ a := ⟨fun p hp => o.1 p (List.mem_append_left _ hp), o.2⟩
variable {q : List (Addr × Addr)} {y : List Addr}
theorem Fx1.less {r : List (Addr × Addr)} {a : Addr} {u : HO} (f : Fx1 ⟨q ++ r, y⟩ H a u) : Fx1 ⟨q, y⟩ H a u := ⟨f.1, f.2.less⟩
theorem Fix.less {r : List (Addr × Addr)} {a : Addr} {u : HO} (f : Fix ⟨q ++ r, y⟩ H a u) : Fix ⟨q, y⟩ H a u := ⟨f.1, f.2.less⟩
mutual
theorem RV.less {r : List (Addr × Addr)} : ∀ (d : PV) (v : V), RV K ca ⟨q ++ r, y⟩ H d v → d.cl q.length = true → RV K ca ⟨q, y⟩ H d v
  | .ptup l, v, h, c => by
    obtain ⟨a, vs, e, ⟨o, d, f⟩, z, r⟩ := h
    exact ⟨a, vs, e, ⟨o, d, f.less⟩, z, RVs.less l vs r c⟩
  | .non, _, h, _ => h
  | .bl _, _, h, _ => h
  | .int _, _, h, _ => h
  | .str _, _, h, _ => h
  | .tup l, v, h, c => by
    obtain ⟨a, vs, e, f, z, r⟩ := h
    exact ⟨a, vs, e, f.imp (fun f => f.less) id, z, RVs.less l vs r c⟩
  | .lst l, v, h, c => by
    obtain ⟨a, vs, e, f, z, r⟩ := h
    exact ⟨a, vs, e, f.less, z, RVs.less l vs r c⟩
  | .dct ks l, v, h, c => by
    obtain ⟨a, vs, e, f, z, r⟩ := h
    exact ⟨a, vs, e, f.less, z, RVs.less l vs r c⟩
  | .obj k l, v, h, c => by
    obtain ⟨a, dx, vs, e, h1, h2, o1, o2, r⟩ := h
    exact ⟨a, dx, vs, e, h1, h2, o1.less, o2.less, RVs.less l vs r c⟩
  | .ref n, v, h, c => by
    obtain ⟨p, e, f⟩ := h
    have hn : n < q.length := of_decide_eq_true c
    rw [List.getElem?_append_left hn] at e
    exact ⟨p, e, f⟩
  | .rtx _, _, h, _ => h
  | .scr l, v, h, c => by
    obtain ⟨a, e, f, z⟩ := h
    exact ⟨a, e, f.imp (fun f => ⟨f.1, f.2.less⟩) id, z⟩
theorem RVs.less {r : List (Addr × Addr)} : ∀ (l : List PV) (vs : List V), RVs K ca ⟨q ++ r, y⟩ H l vs → PV.cls q.length l = true → RVs K ca ⟨q, y⟩ H l vs
  | [], _, h, _ => h
  | d :: l, vs, h, c => by
    obtain ⟨v, r, e, h1, h2⟩ := h
    have c' : (d.cl q.length && PV.cls q.length l) = true := c
    rw [Bool.and_eq_true] at c'
    exact ⟨v, r, e, RV.less d v h1 c'.1, RVs.less l r h2 c'.2⟩
end
theorem ROs.less {r : List (Addr × Addr)} : ∀ (l : List (Option PV)) (vs : List (Option V)), ROs K ca ⟨q ++ r, y⟩ H l vs → (l.all fun x => match x with | some d => d.cl q.length | none => true) = true → ROs K ca ⟨q, y⟩ H l vs
  | [], _, h, _ => h
  | d :: l, vs, h, c => by
    obtain ⟨v, r, e, h1, h2⟩ := h
    rw [List.all_cons, Bool.and_eq_true] at c
    refine ⟨v, r, e, ?_, ROs.less l r h2 c.2⟩
    cases d with
    | none => exact trivial
    | some d => cases v with
      | none => exact h1
      | some v => exact RV.less d v h1 c.1
theorem RO.less {r : List (Addr × Addr)} {p : Addr × Addr} {o : PO} (x : RO K ca ⟨q ++ r, y⟩ H p o) (c : o.cl q.length = true) : RO K ca ⟨q, y⟩ H p o := by
  cases o with
  | lst l => obtain ⟨z, vs, q, r⟩ := x; exact ⟨z, vs, q, RVs.less l vs r c⟩
  | dct ks l => obtain ⟨z, vs, q, y, r⟩ := x; exact ⟨z, vs, q, y, RVs.less l vs r c⟩
  | ins k l => obtain ⟨z, vs, q, r⟩ := x; exact ⟨z, vs, q, ROs.less l vs r c⟩
/-- the younger places are forgotten -/
theorem RH.less {r : List (Addr × Addr)} (x : RH K ca ⟨q ++ r, y⟩ h H) (c : (h.take q.length).all (PO.cl q.length) = true) : RH K ca ⟨q, y⟩ (h.take q.length) H := by
  have hl : q.length + r.length = h.length := by rw [← List.length_append]; exact x.len
  refine ⟨by rw [List.length_take]; show q.length = _; omega, fun n o e => ?_, fun n m p p' hne e e' => ?_, fun p hp => x.hid p (List.mem_append_left _ hp), x.prv⟩
  · have hn : n < q.length := by
      have := (List.getElem?_eq_some_iff.mp e).1
      rw [List.length_take] at this
      omega
    have e2 := e
    rw [List.getElem?_take_of_lt hn] at e2
    obtain ⟨p, e1, ro⟩ := x.at_ n o e2
    rw [show (Pl.mk (q ++ r) y).l = q ++ r from rfl, List.getElem?_append_left hn] at e1
    exact ⟨p, e1, ro.less (List.all_eq_true.mp c o (List.mem_of_getElem? e))⟩
  · have g : ∀ {i : Nat} {z : Addr × Addr}, q[i]? = some z → (q ++ r)[i]? = some z := fun {i z} e => by
      rw [List.getElem?_append_left (List.getElem?_eq_some_iff.mp e).1]
      exact e
    exact x.sep n m p p' hne (g e) (g e')
theorem Ext.less {r : List (Addr × Addr)} (z : Ext φ H ⟨φ.l ++ r, y⟩ H') : Ext φ H ⟨φ.l, y⟩ H' := ⟨⟨⟨[], by simp⟩, fun a o e f => let ⟨e1, f1⟩ := z.keep a o e f; ⟨e1, f1.less⟩⟩, z.keepx⟩
/-- a younger place is none of the elder ones -/
theorem RH.younger {r : List (Addr × Addr)} (z : RH K ca ⟨q ++ r, y⟩ h H) {n : Nat} {p : Addr × Addr} (e : (q ++ r)[n]? = some p) (hn : q.length ≤ n) : Off ⟨q, y⟩ p.1 ∧ Off ⟨q, y⟩ p.2 := by
  have g : ∀ q' ∈ q, p.1 ≠ q'.1 ∧ p.1 ≠ q'.2 ∧ p.2 ≠ q'.1 ∧ p.2 ≠ q'.2 := fun q' hq => by
    obtain ⟨i, ei⟩ := List.getElem?_of_mem hq
    have hi := (List.getElem?_eq_some_iff.mp ei).1
    refine z.sep n i p q' (by omega) e ?_
    show (q ++ r)[i]? = some q'
    rw [List.getElem?_append_left hi]
    exact ei
  obtain ⟨h1, h2⟩ := z.hid p (List.mem_of_getElem? (show (Pl.mk (q ++ r) y).l[n]? = some p from e))
  exact ⟨⟨fun q' hq => ⟨(g q' hq).1, (g q' hq).2.1⟩, h1⟩, ⟨fun q' hq => ⟨(g q' hq).2.2.1, (g q' hq).2.2.2⟩, h2⟩⟩
end
end Lt

set_option maxRecDepth 100000
namespace Lt
open PySem PySem.Spec

inductive Op2 where | add | sub | mul | fdiv | mod | pow
inductive Cmp where | eq | ne | lt | le | gt | ge | in_ | notIn | isN | notN
/-- classes that isinstance asks for -/
inductive Ty where | int | bool | str | tuple | list | dict | own (c : Nat)
/-- built-ins by name -/
inductive Bi where
  | len | abs | int | list (al : Bool) | tuple | all | any | max | min | maxD | sum | repr | str | dict (al : Bool) | lenSet | sortedS | sortedSet | bool
/-- methods of built-in types -/
inductive Me where
  | append | pop | popAt | extend | strip | join | get1 | get2 | items
/-- targets -/
inductive Tg where | name (i : Nat) | tup (is : List Nat)

mutual
inductive E where
  | no | c (v : PV) | v (i : Nat) | g (i : Nat)
  | op (o : Op2) (a b : E) | neg (a : E)
  | cmp (o : Cmp) (a b : E) | chain (o p : Cmp) (a b c : E)
  | bo (k : Bool) (l : List E) | not (a : E) | ite (t : T) (a b : E)
  | ix (a i : E) | sl (a lo hi : E)
  | tup (l : List E) | lst (al : Bool) (l : List E) | star (e : E)
  | dct (al : Bool) (l : List E) | dctS (al : Bool) (l : List E)
  | call (f : Nat) (l : List E) | bi (b : Bi) (l : List E) | me (m : Me) (o : E) (l : List E)
  | lc (al : Bool) (tg : Tg) (it : It) (ts : List T) (e : E) | dc (al : Bool) (tg : Tg) (it : It) (k v : E)
  | fld (o : E) (f : Nat) | meth (m : Nat) (o : E) (l : List E) | make (c : Nat) (l : List E)
  | isi (e : E) (l : List Ty)
inductive T where
  | e (x : E) | bo (k : Bool) (l : List T) | not (t : T)
inductive It where
  | seq (e : E) | rng1 (a : E) | rng2 (a b : E) | items (e : E) | enum (e : E) | zip (a b : E)
end
inductive S where
  | pass | expr (e : E) | set (i : Nat) (e : E) | setT (is : List Nat) (e : E) | par (is : List Nat) (l : List E)
  | setIx (o i e : E) | setFld (o : E) (f : Nat) (e : E) | aug (i : Nat) (o : Op2) (e : E)
  | ite (t : T) (a b : List S) | for_ (tg : Tg) (it : It) (b : List S) | while_ (t : T) (b : List S)
  | ret (e : E) | retN | brk | cnt | fail

/-- a def: how many parameters, what fills up, how many slots, its body; is what it hands back let loose (never written again)? -/
structure Fn where
  ps : Nat
  dfl : List PV := []
  sl : Nat
  body : List S
  frz : Bool := true
/-- a class: its attributes' numbers in their slots' order, methods and properties by their numbers, __init__; do its instances never change? -/
structure Cl where
  slots : List Nat
  meths : List (Nat × Nat) := []
  props : List (Nat × Nat) := []
  init : Nat
  val : Bool := true
structure Tab where
  fns : List Fn
  globs : List PV
  cls : List Cl

abbrev Sl := List (Option PV)
abbrev M (α : Type) := Option (α × PH)
inductive Out where
  | nx (s : Sl) (h : PH) | rt (v : PV) (h : PH) | bk (s : Sl) (h : PH) | ct (s : Sl) (h : PH)

mutual
def PV.py : PV → Option PyData
  | .non => some .none
  | .bl b => some (.bool b)
  | .int i => some (.int i)
  | .str x => some (.str (sx x))
  | .tup l => (PV.pys l).map .tuple
  | .lst l => (PV.pys l).map .list
  | _ => none
def PV.pys : List PV → Option (List PyData)
  | [] => some []
  | x :: l => match x.py, PV.pys l with
    | some d, some r => some (d :: r)
    | _, _ => none
end
/-- == of data; of any list and an empty one -/
def eqV (x y : PV) : Option Bool :=
  match x, y with
  | .lst l, .lst [] => some l.isEmpty
  | .lst [], .lst m => some m.isEmpty
  | .tup l, .tup [] => some l.isEmpty
  | .tup [], .tup m => some m.isEmpty
  | .rtx d, .rtx e => some (decide (d.shown = e.shown))
  | x, y => match x.py, y.py with
    | some d, some e => if d.depth ≤ 64 ∧ e.depth ≤ 64 then some (PyData.eqv d e) else none
    | _, _ => none
/-- a text in a text -/
def isIn (x z : Tx) : Bool := !(Builtin.Str.occurrences (sx z) (sx x) 0 z.length 1).isEmpty
/-- x in some items -/
def anyEq (x : PV) (l : List PV) : Option Bool :=
  match x.py, PV.pys l with
  | some d, some ds => if d.depth ≤ 64 then some (ds.any fun z => PyData.eqv z d) else none
  | _, _ => none
def toDK : PV → Option DK
  | .int i => some (.inl i)
  | .str x => some (.inr x)
  | _ => none
def hasK (ks : List DK) (k : DK) : Bool := ks.any fun j => decide (j = k)
def lkp (ks : List DK) (l : List PV) (k : DK) : Option PV := ((ks.zip l).find? fun p => decide (p.1 = k)).map (·.2)
def inV (h : PH) (x : PV) : PV → Option Bool
  | .tup l => anyEq x l
  | .lst l => anyEq x l
  | .str z => match x with
    | .str y => some (isIn y z)
    | _ => none
  | .dct ks _ => (toDK x).map fun k => hasK ks k
  | .ref n => match h[n]? with
    | some (.dct ks _) => (toDK x).map fun k => hasK ks k
    | some (.lst l) => anyEq x l
    | _ => none
  | _ => none
def isNon : PV → Bool
  | .non => true
  | _ => false
def ltL : Tx → Tx → Bool
  | [], [] => false
  | [], _ :: _ => true
  | _ :: _, [] => false
  | a :: l, b :: m => if a = b then ltL l m else decide (a < b)
def cmpV (o : Cmp) (x y : PV) (h : PH) : Option Bool :=
  match o with
  | .eq => eqV x y
  | .ne => (eqV x y).map (!·)
  | .in_ => inV h x y
  | .notIn => (inV h x y).map (!·)
  | .isN => match y with
    | .non => some (isNon x)
    | _ => none
  | .notN => match y with
    | .non => some (!isNon x)
    | _ => none
  | .lt => match x, y with
    | .int i, .int j => some (decide (i < j))
    | _, _ => none
  | .le => match x, y with
    | .int i, .int j => some (decide (i ≤ j))
    | _, _ => none
  | .gt => match x, y with
    | .int i, .int j => some (decide (j < i))
    | _, _ => none
  | .ge => match x, y with
    | .int i, .int j => some (decide (j ≤ i))
    | _, _ => none
def truthV (h : PH) : PV → Option Bool
  | .non => some false
  | .bl b => some b
  | .int i => some (i != 0)
  | .str x => some (!x.isEmpty)
  | .tup l => some (!l.isEmpty)
  | .lst l => some (!l.isEmpty)
  | .dct ks _ => some (!ks.isEmpty)
  | .ref n => match h[n]? with
    | some (.lst l) => some (!l.isEmpty)
    | some (.dct ks _) => some (!ks.isEmpty)
    | _ => none
  | _ => none
def opV (o : Op2) (x y : PV) : Option PV :=
  match o with
  | .add => match x, y with
    | .int i, .int j => some (.int (i + j))
    | .str a, .str b => if a.length + b.length ≤ sizeLine then some (.str (a ++ b)) else none
    | .tup l, .tup m => if l.length + m.length ≤ sizeLine then some (.tup (l ++ m)) else none
    | .lst l, .lst m => if l.length + m.length ≤ sizeLine then some (.lst (l ++ m)) else none
    | _, _ => none
  | .sub => match x, y with
    | .int i, .int j => some (.int (i - j))
    | _, _ => none
  | .mul => match x, y with
    | .int i, .int j => if (-(2 ^ 64) < i ∧ i < 2 ^ 64) ∨ (-(2 ^ 64) < j ∧ j < 2 ^ 64) then some (.int (i * j)) else none
    | _, _ => none
  | .fdiv => match x, y with
    | .int i, .int j => if 0 < j ∧ j < 1073741824 then some (.int (i / j)) else none
    | _, _ => none
  | .mod => match x, y with
    | .int i, .int j => if 0 < j then some (.int (i % j)) else none
    | _, _ => none
  | .pow => match x, y with
    | .int i, .int j => if 0 ≤ j ∧ (Builtin.Int.intBits i : Int) * j ≤ 2 ^ 27 then some (.int (i ^ j.toNat)) else none
    | _, _ => none
/-- the place that an index means -/
def ixN' (n : Nat) (i : Int) : Option Nat := if 0 ≤ i then (if i < n then some i.toNat else none) else if -(n : Int) ≤ i then some (i + n).toNat else none
def ixV (h : PH) (x y : PV) : Option PV :=
  match x, y with
  | .tup l, .int i => (ixN' l.length i).bind fun j => l[j]?
  | .lst l, .int i => (ixN' l.length i).bind fun j => l[j]?
  | .scr l, .int i => (ixN' l.length i).bind fun j => (l[j]?).map .int
  | .str z, .int i => (ixN' z.length i).bind fun j => (z[j]?).map fun c => .str [c]
  | .dct ks l, k => (toDK k).bind fun k => lkp ks l k
  | .ref n, k => match h[n]? with
    | some (.lst l) => match k with
      | .int i => (ixN' l.length i).bind fun j => l[j]?
      | _ => none
    | some (.dct ks l) => (toDK k).bind fun k => lkp ks l k
    | _ => none
  | _, _ => none
/-- a slice's ends -/
def endN (n d : Nat) : Option Int → Nat
  | none => d
  | some v => if v < 0 then (v + (n : Int)).toNat else min v.toNat n
def cutL {α : Type} (l : List α) (lo hi : Option Int) : List α := (l.drop (endN l.length 0 lo)).take (endN l.length l.length hi - endN l.length 0 lo)
def slV (x : PV) (lo hi : Option Int) : Option PV :=
  match x with
  | .tup l => some (.tup (cutL l lo hi))
  | .lst l => some (.lst (cutL l lo hi))
  | .str l => some (.str (cutL l lo hi))
  | _ => none
/-- a slice's part: left out, or an int -/
def partV (no : Bool) (x : PV) : Option (Option Int) :=
  match no, x with
  | true, _ => some none
  | false, .int i => some (some i)
  | _, _ => none
/-- what a star may stand ahead of -/
def seqV : PV → Option (List PV)
  | .tup l => some l
  | .lst l => some l
  | _ => none
def E.isNo : E → Bool
  | .no => true
  | _ => false
def lenV (h : PH) : PV → Option Nat
  | .str x => some x.length
  | .tup l => some l.length
  | .lst l => some l.length
  | .dct ks _ => some ks.length
  | .scr l => some l.length
  | .ref n => match h[n]? with
    | some (.lst l) => some l.length
    | some (.dct ks _) => some ks.length
    | _ => none
  | _ => none
/-- the items of what a list, a tuple is made of -/
def itemsV : PV → Option (List PV)
  | .tup l => some l
  | .lst l => some l
  | .dct ks _ => some (ks.map fun | .inl i => .int i | .inr x => .str x)
  | .str x => some (x.map fun c => .str [c])
  | _ => none
def boolsV : List PV → Option (List Bool)
  | [] => some []
  | .bl b :: l => (boolsV l).map (b :: ·)
  | _ => none
def intsV : List PV → Option (List Int)
  | [] => some []
  | .int b :: l => (intsV l).map (b :: ·)
  | _ => none
def strsV : List PV → Option (List Tx)
  | [] => some []
  | .str b :: l => (strsV l).map (b :: ·)
  | _ => none
def maxL : List Int → Option Int
  | [] => none
  | i :: r => some (r.foldl (fun a b => if b > a then b else a) i)
def minL : List Int → Option Int
  | [] => none
  | i :: r => some (r.foldl (fun a b => if b < a then b else a) i)
def insS (x : Tx) : List Tx → List Tx
  | [] => [x]
  | y :: l => if ltL y x then y :: insS x l else x :: y :: l
def sortS : List Tx → List Tx
  | [] => []
  | x :: l => insS x (sortS l)
def nubS : List Tx → List Tx
  | [] => []
  | x :: l => if x ∈ nubS l then nubS l else x :: nubS l
/-- behind d[k] = v -/
def putV (ks : List DK) (l : List PV) (k : DK) (v : PV) : List DK × List PV :=
  if hasK ks k = true then (ks, (ks.zip l).map fun p => if p.1 = k then v else p.2) else (ks ++ [k], l ++ [v])
/-- a new list, a new dict: let loose, or at a place -/
def newL (al : Bool) (l : List PV) (h : PH) : M PV := if al then some (.ref h.length, h ++ [.lst l]) else some (.lst l, h)
def newD (al : Bool) (ks : List DK) (l : List PV) (h : PH) : M PV := if al then some (.ref h.length, h ++ [.dct ks l]) else some (.dct ks l, h)
def tyV (h : PH) (t : Ty) : PV → Option Bool
  | .non => some false
  | .bl _ => some (match t with | .int => true | .bool => true | _ => false)
  | .int _ => some (match t with | .int => true | _ => false)
  | .str _ => some (match t with | .str => true | _ => false)
  | .tup _ => some (match t with | .tuple => true | _ => false)
  | .lst _ => some (match t with | .list => true | _ => false)
  | .dct _ _ => some (match t with | .dict => true | _ => false)
  | .obj c _ => some (match t with | .own k => c == k | _ => false)
  | .scr _ => none
  | .rtx _ => none
  | .ptup _ => none
  | .ref n => match h[n]? with
    | some (.lst _) => some (match t with | .list => true | _ => false)
    | some (.dct _ _) => some (match t with | .dict => true | _ => false)
    | some (.ins c _) => some (match t with | .own k => c == k | _ => false)
    | none => none
/-- a text of pairs -/
def pairsV : List PV → Option (List DK × List PV)
  | [] => some ([], [])
  | .tup [k, v] :: l => match toDK k, pairsV l with
    | some k, some (ks, vs) => some (k :: ks, v :: vs)
    | _, _ => none
  | _ => none
/-- put one behind the other -/
def mergeV (ks : List DK) (l : List PV) : List DK → List PV → List DK × List PV
  | k :: r, v :: s => mergeV (putV ks l k v).1 (putV ks l k v).2 r s
  | _, _ => (ks, l)

def setAll : List Nat → List PV → Sl → Sl
  | i :: is, x :: l, s => setAll is l (s.set i (some x))
  | _, _, s => s
def asg (tg : Tg) (x : PV) (s : Sl) : Option Sl :=
  match tg with
  | .name i => some (s.set i (some x))
  | .tup is => match x with
    | .tup l => if l.length = is.length then some (setAll is l s) else none
    | _ => none
def forL (tg : Tg) (body : Sl → PH → Option Out) : List PV → Sl → PH → Option Out
  | [], s, h => some (.nx s h)
  | x :: r, s, h => match asg tg x s with
    | none => none
    | some s1 => match body s1 h with
      | some (.nx s2 h2) => forL tg body r s2 h2
      | some (.ct s2 h2) => forL tg body r s2 h2
      | some (.bk s2 h2) => some (.nx s2 h2)
      | some (.rt v h2) => some (.rt v h2)
      | none => none
def whL (test : Sl → PH → M Bool) (body : Sl → PH → Option Out) : Nat → Sl → PH → Option Out
  | 0, _, _ => none
  | n + 1, s, h => match test s h with
    | none => none
    | some (false, h1) => some (.nx s h1)
    | some (true, h1) => match body s h1 with
      | some (.nx s2 h2) => whL test body n s2 h2
      | some (.ct s2 h2) => whL test body n s2 h2
      | some (.bk s2 h2) => some (.nx s2 h2)
      | some (.rt v h2) => some (.rt v h2)
      | none => none
def lcL (tg : Tg) (test : Sl → PH → M Bool) (elt : Sl → PH → M PV) (s : Sl) : List PV → PH → M (List PV)
  | [], h => some ([], h)
  | x :: r, h => match asg tg x s with
    | none => none
    | some s1 => match test s1 h with
      | none => none
      | some (false, h1) => lcL tg test elt s r h1
      | some (true, h1) => match elt s1 h1 with
        | none => none
        | some (y, h2) => match lcL tg test elt s r h2 with
          | none => none
          | some (ys, h3) => some (y :: ys, h3)
def dcL (tg : Tg) (kx vx : Sl → PH → M PV) (s : Sl) : List PV → List DK → List PV → PH → Option (List DK × List PV × PH)
  | [], ks, l, h => some (ks, l, h)
  | x :: r, ks, l, h => match asg tg x s with
    | none => none
    | some s1 => match kx s1 h with
      | none => none
      | some (k, h1) => match toDK k with
        | none => none
        | some k => match vx s1 h1 with
          | none => none
          | some (v, h2) => dcL tg kx vx s r (putV ks l k v).1 (putV ks l k v).2 h2
def itSeq : PV → Option (List PV)
  | .tup l => some l
  | .lst l => some l
  | .str x => some (x.map fun c => .str [c])
  | .dct ks _ => some (ks.map fun | .inl i => .int i | .inr x => .str x)
  | _ => none
def rngL (i : Int) : Nat → List PV
  | 0 => []
  | n + 1 => .int i :: rngL (i + 1) n
def enumL (i : Int) : List PV → List PV
  | [] => []
  | x :: l => .tup [.int i, x] :: enumL (i + 1) l
def zipL : List PV → List PV → List PV
  | x :: l, y :: m => .tup [x, y] :: zipL l m
  | _, _ => []
def itemsL : List DK → List PV → List PV
  | k :: r, x :: l => .tup [(match k with | .inl i => .int i | .inr t => .str t), x] :: itemsL r l
  | _, _ => []

def biV (b : Bi) (l : List PV) (h : PH) : M PV :=
  match b, l with
  | .len, [x] => (lenV h x).map fun n => (.int n, h)
  | .abs, [.int i] => some (.int (if i < 0 then -i else i), h)
  | .int, [.int i] => some (.int i, h)
  | .int, [.bl k] => some (.int (if k then 1 else 0), h)
  | .bool, [.bl k] => some (.bl k, h)
  | .list al, [.tup l] => newL al l h
  | .list al, [.lst l] => newL al l h
  | .list al, [.dct ks _] => newL al (ks.map fun | .inl i => .int i | .inr x => .str x) h
  | .list al, [.ref n] => match h[n]? with
    | some (.lst l) => newL al l h
    | _ => none
  | .tuple, [.tup l] => some (.tup l, h)
  | .tuple, [.lst l] => some (.tup l, h)
  | .tuple, [.ref n] => match h[n]? with
    | some (.lst l) => some (.tup l, h)
    | _ => none
  | .all, [.lst l] => (boolsV l).map fun bs => (.bl (bs.all id), h)
  | .any, [.lst l] => (boolsV l).map fun bs => (.bl (bs.any id), h)
  | .sum, [.lst l] => (intsV l).map fun is => (.int is.sum, h)
  | .max, [.lst l] => (intsV l).bind fun is => (maxL is).map fun i => (.int i, h)
  | .min, [.lst l] => (intsV l).bind fun is => (minL is).map fun i => (.int i, h)
  | .max, [.int i, .int j] => some (.int (if j > i then j else i), h)
  | .min, [.int i, .int j] => some (.int (if j < i then j else i), h)
  | .maxD, [.lst l, .int d] => (intsV l).bind fun is => match is with
    | [] => some (.int d, h)
    | i :: r => (maxL (i :: r)).map fun i => (.int i, h)
  | .dict al, [.tup l] => (pairsV l).bind fun p => newD al (mergeV [] [] p.1 p.2).1 (mergeV [] [] p.1 p.2).2 h
  | .dict al, [.lst l] => (pairsV l).bind fun p => newD al (mergeV [] [] p.1 p.2).1 (mergeV [] [] p.1 p.2).2 h
  | .lenSet, [x] => (itemsV x).bind fun l => (strsV l).map fun ts => (.int (nubS ts).length, h)
  | .sortedS, [x] => (itemsV x).bind fun l => (strsV l).bind fun ts => if ts.length < 64 then some (.lst ((sortS ts).map .str), h) else none
  | .sortedSet, [x] => (itemsV x).bind fun l => (strsV l).bind fun ts => if ts.length < 64 then some (.lst ((sortS (nubS ts)).map .str), h) else none
  | _, _ => none
/-- strip of signs -/
def stripV (x cs : Tx) : Tx := (Txt.stripChars (sx x) (sx cs)).cps.toList
/-- what a method is asked of -/
def rcvV (m : Me) (x : PV) (h : PH) : Bool :=
  match m, x with
  | .strip, .str _ => true
  | .join, .str _ => true
  | .append, .ref n => match h[n]? with
    | some (.lst _) => true
    | _ => false
  | .extend, .ref n => match h[n]? with
    | some (.lst _) => true
    | _ => false
  | .pop, .ref n => match h[n]? with
    | some (.lst _) => true
    | _ => false
  | .popAt, .ref n => match h[n]? with
    | some (.lst _) => true
    | _ => false
  | .get1, .dct _ _ => true
  | .get2, .dct _ _ => true
  | .get1, .ref n => match h[n]? with
    | some (.dct _ _) => true
    | _ => false
  | .get2, .ref n => match h[n]? with
    | some (.dct _ _) => true
    | _ => false
  | _, _ => false
def meV (m : Me) (o : PV) (l : List PV) (h : PH) : M PV :=
  match m, o, l with
  | .append, .ref n, [x] => match h[n]? with
    | some (.lst l) => if l.length < sizeLine then some (.non, h.set n (.lst (l ++ [x]))) else none
    | _ => none
  | .extend, .ref n, [x] => match h[n]?, x with
    | some (.lst l), .lst m => if l.length + m.length ≤ sizeLine then some (.non, h.set n (.lst (l ++ m))) else none
    | some (.lst l), .tup m => if l.length + m.length ≤ sizeLine then some (.non, h.set n (.lst (l ++ m))) else none
    | _, _ => none
  | .pop, .ref n, [] => match h[n]? with
    | some (.lst l) => (l[l.length - 1]?).map fun x => (x, h.set n (.lst l.dropLast))
    | _ => none
  | .popAt, .ref n, [.int i] => match h[n]? with
    | some (.lst l) => (ixN' l.length i).bind fun j => (l[j]?).map fun x => (x, h.set n (.lst (l.eraseIdx j)))
    | _ => none
  | .strip, .str x, [.str cs] => some (.str (stripV x cs), h)
  | .get1, .dct ks l, [k] => (toDK k).map fun k => ((lkp ks l k).getD .non, h)
  | .get2, .dct ks l, [k, d] => (toDK k).map fun k => ((lkp ks l k).getD d, h)
  | .get1, .ref n, [k] => match h[n]? with
    | some (.dct ks l) => (toDK k).map fun k => ((lkp ks l k).getD .non, h)
    | _ => none
  | .get2, .ref n, [k, d] => match h[n]? with
    | some (.dct ks l) => (toDK k).map fun k => ((lkp ks l k).getD d, h)
    | _ => none
  | _, _, _ => none
/-- o[i] = v -/
def setIxV (o i v : PV) (h : PH) : Option PH :=
  match o with
  | .ref n => match h[n]? with
    | some (.lst l) => match i with
      | .int k => (ixN' l.length k).map fun j => h.set n (.lst (l.set j v))
      | _ => none
    | some (.dct ks l) => (toDK i).bind fun k => if ks.length < sizeLine then some (h.set n (.dct (putV ks l k v).1 (putV ks l k v).2)) else none
    | _ => none
  | _ => none
def gc (frz : Bool) (n : Nat) (v : PV) (h : PH) : PV × PH :=
  if h.length = n then (v, h)
  else if (h.take n).all (PO.cl n) = true then
    (if v.cl n = true then (v, h.take n)
    else match v with
      | .ref m => if frz = true ∧ n ≤ m then
          (match h[m]? with
          | some (.lst l) => if PV.cls n l = true then (.lst l, h.take n) else (v, h)
          | some (.dct ks l) => if PV.cls n l = true then (.dct ks l, h.take n) else (v, h)
          | _ => (v, h))
        else (v, h)
      | _ => (v, h))
  else (v, h)
/-- the slots of an instance, all of them filled -/
def allS : List (Option PV) → Option (List PV)
  | [] => some []
  | some x :: l => (allS l).map (x :: ·)
  | none :: _ => none
/-- a new instance that is let loose -/
def loose (n c : Nat) (h : PH) : Option (PV × PH) :=
  match h[n]? with
  | some (.ins k l) => match allS l with
    | some (x :: xs) => if k = c ∧ h.length = n + 1 ∧ PV.cls n (x :: xs) = true ∧ (h.take n).all (PO.cl n) = true then some (.obj c (x :: xs), h.take n) else none
    | _ => none
  | _ => none
end Lt

set_option maxRecDepth 100000
namespace Lt
open PySem
def bd {α β : Type} (m : M α) (f : α → PH → Option β) : Option β := match m with
  | none => none
  | some (x, h) => f x h
def ob {α β : Type} (m : Option α) (f : α → Option β) : Option β := match m with
  | none => none
  | some x => f x
def ib {α : Type} (b : Bool) (x y : α) : α := match b with
  | true => x
  | false => y
def nxt (m : Option Out) (f : Sl → PH → Option Out) : Option Out := match m with
  | some (.nx s h) => f s h
  | r => r
section
variable {α β : Type} {x : α} {h : PH} {f : α → PH → Option β} {g : α → Option β} {m m' : M α} {n n' : Option α} {b b' : Bool} {u v : α} {s : Sl} {k : Sl → PH → Option Out} {w : PV} {o o' : Option Out}
@[simp] theorem bd_some : bd (some (x, h)) f = f x h := rfl
@[simp] theorem bd_none : bd none f = none := rfl
@[simp] theorem ob_some : ob (some x) g = g x := rfl
@[simp] theorem ob_none : ob none g = none := rfl
@[simp] theorem ib_true : ib true u v = u := rfl
@[simp] theorem ib_false : ib false u v = v := rfl
@[simp] theorem nxt_nx : nxt (some (.nx s h)) k = k s h := rfl
@[simp] theorem nxt_rt : nxt (some (.rt w h)) k = some (.rt w h) := rfl
@[simp] theorem nxt_bk : nxt (some (.bk s h)) k = some (.bk s h) := rfl
@[simp] theorem nxt_ct : nxt (some (.ct s h)) k = some (.ct s h) := rfl
@[simp] theorem nxt_none : nxt none k = none := rfl
theorem bd_congr (e : m = m') : bd m f = bd m' f := by rw [e]
theorem ob_congr (e : n = n') : ob n g = ob n' g := by rw [e]
theorem ib_congr (e : b = b') : ib b u v = ib b' u v := by rw [e]
theorem nxt_congr (e : o = o') : nxt o k = nxt o' k := by rw [e]
end
def putD (i : Nat) (v : PV) (l : List (Option PV)) : List (Option PV) := (l ++ List.replicate (i + 1 - l.length) Option.none).set i (some v)
section
variable (G : Tab) (cf : Nat → List PV → PH → M PV) (wf : Nat)
/-- an attribute -/
def fldV (f : Nat) (o : PV) (h : PH) : M PV :=
  match o with
  | .obj c l => ob (G.cls[c]?) fun C => match C.slots.idxOf? f with
      | some i => ob (l[i]?) fun v => some (v, h)
      | none => ob (C.props.lookup f) fun p => cf p [o] h
  | .ref n => match h[n]? with
    | some (.ins c l) => ob (G.cls[c]?) fun C => match C.slots.idxOf? f with
        | some i => match l[i]? with
          | some (some v) => some (v, h)
          | _ => none
        | none => ob (C.props.lookup f) fun p => cf p [o] h
    | _ => none
  | _ => none
def clsV (o : PV) (h : PH) : Option Nat :=
  match o with
  | .obj c _ => some c
  | .ref n => match h[n]? with
    | some (.ins c _) => some c
    | _ => none
  | _ => none
def methV (m : Nat) (o : PV) (l : List PV) (h : PH) : M PV :=
  ob (clsV o h) fun c => ob (G.cls[c]?) fun C => ob (C.meths.lookup m) fun f => cf f (o :: l) h
def makeV (c : Nat) (l : List PV) (h : PH) : M PV :=
  ob (G.cls[c]?) fun C => bd (cf C.init (.ref h.length :: l) (h ++ [.ins c []])) fun v h1 => match v with
    | .non => ib C.val (loose h.length c h1) (some (.ref h.length, h1))
    | _ => none
/-- o.f = v -/
def setFldV (f : Nat) (o v : PV) (h : PH) : Option PH :=
  match o with
  | .ref n => match h[n]? with
    | some (.ins c l) => ob (G.cls[c]?) fun C => ob (C.slots.idxOf? f) fun i => some (h.set n (.ins c (putD i v l)))
    | _ => none
  | _ => none
mutual
def evE : E → Sl → PH → M PV
  | .no, _, h => some (.non, h)
  | .c v, _, h => some (v, h)
  | .v i, s, h => match s[i]? with
    | some (some v) => some (v, h)
    | _ => none
  | .g i, _, h => ob (G.globs[i]?) fun v => some (v, h)
  | .op o a b, s, h => bd (evE a s h) fun x h => bd (evE b s h) fun y h => ob (opV o x y) fun v => some (v, h)
  | .neg a, s, h => bd (evE a s h) fun x h => match x with
    | .int i => some (.int (-i), h)
    | _ => none
  | .cmp o a b, s, h => bd (evE a s h) fun x h => bd (evE b s h) fun y h => ob (cmpV o x y h) fun v => some (.bl v, h)
  | .chain o p a b c, s, h => bd (evE a s h) fun x h => bd (evE b s h) fun y h => ob (cmpV o x y h) fun v =>
      ib v (bd (evE c s h) fun z h => ob (cmpV p y z h) fun v => some (.bl v, h)) (some (.bl false, h))
  | .bo k l, s, h => evBo k l s h
  | .not a, s, h => bd (evE a s h) fun x h => ob (truthV h x) fun t => some (.bl (!t), h)
  | .ite t a b, s, h => bd (evT t s h) fun v h => ib v (evE a s h) (evE b s h)
  | .ix a i, s, h => bd (evE a s h) fun x h => bd (evE i s h) fun y h => ob (ixV h x y) fun v => some (v, h)
  | .sl a lo hi, s, h => bd (evE a s h) fun x h => bd (evE lo s h) fun y h => ob (partV lo.isNo y) fun y => bd (evE hi s h) fun z h => ob (partV hi.isNo z) fun z => ob (slV x y z) fun v => some (v, h)
  | .tup l, s, h => bd (evEs l s h) fun vs h => if vs.length ≤ sizeLine then some (.tup vs, h) else none
  | .lst al l, s, h => bd (evEs l s h) fun vs h => if vs.length ≤ sizeLine then newL al vs h else none
  | .star _, _, _ => none
  | .dct al l, s, h => bd (evKs l s h) fun ps h => newD al (mergeV [] [] (ps.map (·.1)) (ps.map (·.2))).1 (mergeV [] [] (ps.map (·.1)) (ps.map (·.2))).2 h
  | .dctS al l, s, h => bd (evDs l s h) fun p h => newD al p.1 p.2 h
  | .call f l, s, h => bd (evEs l s h) fun vs h => cf f vs h
  | .bi b l, s, h => bd (evEs l s h) fun vs h => biV b vs h
  | .me m o l, s, h => bd (evE o s h) fun x h => ib (rcvV m x h) (bd (evEs l s h) fun vs h => meV m x vs h) none
  | .lc al tg it ts e, s, h => bd (evIt it s h) fun xs h => bd (lcL tg (fun s h => evTs true ts s h) (fun s h => evE e s h) s xs h) fun ys h => newL al ys h
  | .dc al tg it k v, s, h => bd (evIt it s h) fun xs h => ob (dcL tg (fun s h => evE k s h) (fun s h => evE v s h) s xs [] [] h) fun p => newD al p.1 p.2.1 p.2.2
  | .fld o f, s, h => bd (evE o s h) fun x h => fldV G cf f x h
  | .meth m o l, s, h => bd (evE o s h) fun x h => bd (evEs l s h) fun vs h => methV G cf m x vs h
  | .make c l, s, h => bd (evEs l s h) fun vs h => makeV G cf c vs h
  | .isi e l, s, h => bd (evE e s h) fun x h => match l with
      | [t] => ob (tyV h t x) fun b => some (.bl b, h)
      | _ => none
def evEs : List E → Sl → PH → M (List PV)
  | [], _, h => some ([], h)
  | .star e :: l, s, h => bd (evE e s h) fun x h => ob (seqV x) fun xs => bd (evEs l s h) fun vs h => some (xs ++ vs, h)
  | e :: l, s, h => bd (evE e s h) fun x h => bd (evEs l s h) fun vs h => some (x :: vs, h)
def evKs : List E → Sl → PH → M (List (DK × PV))
  | [], _, h => some ([], h)
  | [_], _, _ => none
  | k :: v :: l, s, h => bd (evE k s h) fun x h => ob (toDK x) fun d => bd (evE v s h) fun y h => bd (evKs l s h) fun r h => some ((d, y) :: r, h)
def evDs : List E → Sl → PH → M (List DK × List PV)
  | [], _, h => some (([], []), h)
  | e :: l, s, h => bd (evE e s h) fun x h => match x with
    | .dct ks vs => bd (evDs l s h) fun p h => some (mergeV ks vs p.1 p.2, h)
    | _ => none
def evBo (k : Bool) : List E → Sl → PH → M PV
  | [], _, _ => none
  | [e], s, h => evE e s h
  | e :: l, s, h => bd (evE e s h) fun x h => ob (truthV h x) fun t => ib (t == k) (evBo k l s h) (some (x, h))
def evT : T → Sl → PH → M Bool
  | .e x, s, h => bd (evE x s h) fun v h => ob (truthV h v) fun t => some (t, h)
  | .bo k l, s, h => evTs k l s h
  | .not t, s, h => bd (evT t s h) fun b h => some (!b, h)
def evTs (k : Bool) : List T → Sl → PH → M Bool
  | [], _, h => some (k, h)
  | t :: l, s, h => bd (evT t s h) fun b h => ib (b == k) (evTs k l s h) (some (b, h))
def evIt : It → Sl → PH → M (List PV)
  | .seq e, s, h => bd (evE e s h) fun x h => ob (itSeq x) fun l => some (l, h)
  | .rng1 a, s, h => bd (evE a s h) fun x h => match x with
    | .int n => if -1000000 ≤ n ∧ n ≤ 1000000 then some (rngL 0 n.toNat, h) else none
    | _ => none
  | .rng2 a b, s, h => bd (evE a s h) fun x h => bd (evE b s h) fun y h => match x, y with
      | .int i, .int j => if -1000000 ≤ i ∧ i ≤ 1000000 ∧ -1000000 ≤ j ∧ j ≤ 1000000 then some (rngL i (j - i).toNat, h) else none
      | _, _ => none
  | .items e, s, h => bd (evE e s h) fun x h => match x with
    | .dct ks l => some (itemsL ks l, h)
    | _ => none
  | .enum e, s, h => bd (evE e s h) fun x h => match x with
    | .tup l => some (enumL 0 l, h)
    | .lst l => some (enumL 0 l, h)
    | _ => none
  | .zip a b, s, h => bd (evE a s h) fun x h => bd (evE b s h) fun y h => ob (itemsV x) fun l => ob (itemsV y) fun m => some (zipL l m, h)
end
mutual
def evS : S → Sl → PH → Option Out
  | .pass, s, h => some (.nx s h)
  | .expr e, s, h => bd (evE G cf e s h) fun _ h => some (.nx s h)
  | .set i e, s, h => bd (evE G cf e s h) fun x h => some (.nx (s.set i (some x)) h)
  | .setT is e, s, h => bd (evE G cf e s h) fun x h => match x with
    | .tup l => if l.length = is.length then some (.nx (setAll is l s) h) else none
    | _ => none
  | .par is l, s, h => bd (evEs G cf l s h) fun vs h => if vs.length = is.length then some (.nx (setAll is vs s) h) else none
  | .setIx o i e, s, h => bd (evE G cf e s h) fun x h => bd (evE G cf o s h) fun y h => bd (evE G cf i s h) fun z h => ob (setIxV y z x h) fun h => some (.nx s h)
  | .setFld o f e, s, h => bd (evE G cf e s h) fun x h => bd (evE G cf o s h) fun y h => ob (setFldV G f y x h) fun h => some (.nx s h)
  | .aug i o e, s, h => match s[i]? with
    | some (some x) => bd (evE G cf e s h) fun y h => ob (opV o x y) fun v => some (.nx (s.set i (some v)) h)
    | _ => none
  | .ite t a b, s, h => bd (evT G cf t s h) fun v h => ib v (evSs a s h) (evSs b s h)
  | .for_ tg it b, s, h => bd (evIt G cf it s h) fun xs h => forL tg (fun s h => evSs b s h) xs s h
  | .while_ t b, s, h => whL (fun s h => evT G cf t s h) (fun s h => evSs b s h) wf s h
  | .ret e, s, h => bd (evE G cf e s h) fun v h => some (.rt v h)
  | .retN, _, h => some (.rt .non h)
  | .brk, s, h => some (.bk s h)
  | .cnt, s, h => some (.ct s h)
  | .fail, _, _ => none
def evSs : List S → Sl → PH → Option Out
  | [], s, h => some (.nx s h)
  | x :: l, s, h => nxt (evS x s h) fun s h => evSs l s h
end
section
variable {G cf wf} {s s' : Sl} {h h' : PH}
theorem evE_congr {e : E} (a : s = s') (b : h = h') : evE G cf e s h = evE G cf e s' h' := by rw [a, b]
theorem evEs_congr {e : List E} (a : s = s') (b : h = h') : evEs G cf e s h = evEs G cf e s' h' := by rw [a, b]
theorem evKs_congr {e : List E} (a : s = s') (b : h = h') : evKs G cf e s h = evKs G cf e s' h' := by rw [a, b]
theorem evDs_congr {e : List E} (a : s = s') (b : h = h') : evDs G cf e s h = evDs G cf e s' h' := by rw [a, b]
theorem evBo_congr {k : Bool} {e : List E} (a : s = s') (b : h = h') : evBo G cf k e s h = evBo G cf k e s' h' := by rw [a, b]
theorem evT_congr {e : T} (a : s = s') (b : h = h') : evT G cf e s h = evT G cf e s' h' := by rw [a, b]
theorem evTs_congr {k : Bool} {e : List T} (a : s = s') (b : h = h') : evTs G cf k e s h = evTs G cf k e s' h' := by rw [a, b]
theorem evIt_congr {e : It} (a : s = s') (b : h = h') : evIt G cf e s h = evIt G cf e s' h' := by rw [a, b]
theorem evS_congr {e : S} (a : s = s') (b : h = h') : evS G cf wf e s h = evS G cf wf e s' h' := by rw [a, b]
theorem evSs_congr {e : List S} (a : s = s') (b : h = h') : evSs G cf wf e s h = evSs G cf wf e s' h' := by rw [a, b]
end
end
/-- a def's call: what it makes is forgotten, if nothing holds it -/
def runF (G : Tab) (cf : Nat → List PV → PH → M PV) (wf : Nat) (d : Fn) (l : List PV) (h : PH) : M PV :=
  let a := l ++ d.dfl.drop (d.dfl.length + l.length - d.ps)
  if a.length = d.ps then
    match evSs G cf wf d.body (a.map some ++ List.replicate (d.sl - d.ps) none) h with
    | some (.rt v h1) => some (gc d.frz h.length v h1)
    | some (.nx _ h1) => some (gc d.frz h.length .non h1)
    | _ => none
  else none
def callF (G : Tab) (wf : Nat) : Nat → Nat → List PV → PH → M PV
  | 0, _, _, _ => none
  | k + 1, f, l, h => ob (G.fns[f]?) fun d => runF G (callF G wf k) wf d l h
end Lt

set_option maxRecDepth 100000
namespace Lt
open PySem PySem.Spec L2

theorem wkE {X : Cx} {e : Expr} {t t' : TE} (h : PE X e t) (w : ∀ σ H Q, t' σ H Q → t σ H Q) : PE X e t' := ⟨fun pins s σ H Q I hq => h.run pins s σ H Q I (w _ _ _ hq)⟩
theorem wkT {X : Cx} {e : Expr} {t t' : TT} (h : PT X e t) (w : ∀ σ H Q, t' σ H Q → t σ H Q) : PT X e t' := ⟨fun pins s σ H Q I hq => h.run pins s σ H Q I (w _ _ _ hq)⟩
theorem wkW {X : Cx} {e : Expr} {t t' : TT} (h : PW X e t) (w : ∀ σ H Q, t' σ H Q → t σ H Q) : PW X e t' := ⟨fun wh pins s σ H Q I hq => h.run wh pins s σ H Q I (w _ _ _ hq)⟩
theorem wkA {X : Cx} {e : List Expr} {t t' : TA} (h : PA X e t) (w : ∀ σ H Q, t' σ H Q → t σ H Q) : PA X e t' := ⟨fun pos pins s σ H Q I hq => h.run pos pins s σ H Q I (w _ _ _ hq)⟩
theorem wkS {X : Cx} {e : Stmt} {t t' : TS} (h : PS X e t) (w : ∀ D σ H, t' D σ H → t D σ H) : PS X e t' := ⟨fun pins s σ H D I hq => h.run pins s σ H D I (w _ _ _ hq)⟩
theorem wkSs {X : Cx} {e : List Stmt} {t t' : TS} (h : PSs X e t) (w : ∀ D σ H, t' D σ H → t D σ H) : PSs X e t' := ⟨fun pins s σ H D I hq => h.run pins s σ H D I (w _ _ _ hq)⟩

section
variable (K : PySem.W.Frag) (ca : CA)
/-- the slots: what is known of them -/
def RS (φ : Pl) (H : Hp) (s : Sl) (σ : St) : Prop := s.length = σ.length ∧ ∀ (i : Nat) (x : PV), s[i]? = some (some x) → ∃ v, σ[i]? = some (some v) ∧ RV K ca φ H x v
/-- what is wanted behind an expression, a test, an argument list -/
def Pst (φ : Pl) (H : Hp) (x : PV) (h : PH) (Q : VK) : Prop := ∀ v φ' H', Ext φ H φ' H' → RH K ca φ' h H' → RV K ca φ' H' x v → Q v H'
def tD (m : Sl → PH → M PV) : TE := fun σ H Q => ∃ φ s h x h', RS K ca φ H s σ ∧ RH K ca φ h H ∧ m s h = some (x, h') ∧ Pst K ca φ H x h' Q
def tDT (m : Sl → PH → M Bool) : TT := fun σ H Q => ∃ φ s h b h', RS K ca φ H s σ ∧ RH K ca φ h H ∧ m s h = some (b, h') ∧ ∀ φ' H', Ext φ H φ' H' → RH K ca φ' h' H' → Q b H'
def tDA (m : Sl → PH → M (List PV)) : TA := fun σ H Q => ∃ φ s h l h', RS K ca φ H s σ ∧ RH K ca φ h H ∧ m s h = some (l, h') ∧ ∀ vs φ' H', Ext φ H φ' H' → RH K ca φ' h' H' → RVs K ca φ' H' l vs → Q vs H'
end

theorem bd_eq {α β : Type} {m : M α} {f : α → PH → Option β} {r : β} (e : bd m f = some r) : ∃ x h, m = some (x, h) ∧ f x h = some r := by
  cases m with
  | none => cases e
  | some p => exact ⟨p.1, p.2, rfl, e⟩
theorem ob_eq {α β : Type} {m : Option α} {f : α → Option β} {r : β} (e : ob m f = some r) : ∃ x, m = some x ∧ f x = some r := by
  cases m with
  | none => cases e
  | some p => exact ⟨p, rfl, e⟩

section
variable {K : PySem.W.Frag} {ca : CA} {φ φ' : Pl} {H H' : Hp} {s : Sl} {σ : St}
theorem RS.ext (x : Ext0 φ H φ' H') (r : RS K ca φ H s σ) : RS K ca φ' H' s σ := ⟨r.1, fun i d e => let ⟨v, e1, r1⟩ := r.2 i d e; ⟨v, e1, RV.ext x d v r1⟩⟩
theorem RS.set {i : Nat} {d : PV} {v : V} (r : RS K ca φ H s σ) (q : RV K ca φ H d v) : RS K ca φ H (s.set i (some d)) (σ.set i (some v)) := by
  refine ⟨by rw [List.length_set, List.length_set]; exact r.1, fun j x e => ?_⟩
  by_cases hj : i = j
  · subst hj
    by_cases hl : i < s.length
    · rw [List.getElem?_set_self hl] at e
      cases e
      exact ⟨v, List.getElem?_set_self (by rw [← r.1]; exact hl), q⟩
    · rw [List.getElem?_eq_none (by rw [List.length_set]; omega)] at e
      cases e
  · rw [List.getElem?_set_ne hj] at e
    obtain ⟨u, e1, r1⟩ := r.2 j x e
    exact ⟨u, by rw [List.getElem?_set_ne hj]; exact e1, r1⟩
/-- what a value is not that is none of the places -/
theorem RV.none_iff {d : PV} {v : V} (r : RV K ca φ H d v) : decide (v = V.non) = isNon d := by
  cases d with
  | non => rw [show v = .non from r]; rfl
  | bl b => rw [show v = .bl b from r]; rfl
  | int b => rw [show v = .int b from r]; rfl
  | str b => rw [show v = .str (sx b) from r.1]; rfl
  | tup l => obtain ⟨a, _, e, _⟩ := r; rw [e]; rfl
  | lst l => obtain ⟨a, _, e, _⟩ := r; rw [e]; rfl
  | dct ks l => obtain ⟨a, _, e, _⟩ := r; rw [e]; rfl
  | obj c l => obtain ⟨a, _, _, e, _⟩ := r; rw [e]; rfl
  | ref n => obtain ⟨p, _, e⟩ := r; rw [e]; rfl
  | scr n => obtain ⟨p, e, _⟩ := r; rw [e]; rfl
  | rtx d => rw [show v = .str d.shown from r]; rfl
  | ptup l => obtain ⟨a, _, e, _⟩ := r; rw [e]; rfl
end

section
variable {X : Cx} {ca : CA} {pos : Pos}
theorem d_var {i : Nat} {x : Str} (hN : X.N[i]? = some x) (hv : Vis X.env.scope x) (hd : (x == ("__debug__" : Str)) = false) (hcd : (x == ("__classdict__" : Str)) = false) :
    PE X (.Name x pos) (tD X.K ca fun s h => match s[i]? with | some (some v) => some (v, h) | _ => none) := by
  refine wkE (pe_var hN hv hd hcd) fun σ H Q q => ?_
  obtain ⟨φ, s, h, x, h', rs, rh, e, q⟩ := q
  cases e1 : s[i]? with
  | none => simp only [e1] at e; cases e
  | some o => cases o with
    | none => simp only [e1] at e; cases e
    | some y =>
      simp only [e1] at e
      cases e
      obtain ⟨v, e2, r⟩ := rs.2 i _ e1
      exact ⟨v, e2, q v φ H Ext.refl rh r⟩
/-- a constant value -/
theorem d_const {e : Expr} {v : V} {d : PV} (p : PE X e (tC v)) (r : ∀ φ H, RV X.K ca φ H d v) : PE X e (tD X.K ca fun _ h => some (d, h)) := by
  refine wkE p fun σ H Q q => ?_
  obtain ⟨φ, s, h, x, h', rs, rh, e, q⟩ := q
  cases e
  exact q v φ H Ext.refl rh (r φ H)
/-- a module's constant -/
theorem d_glob {e : Expr} {v : V} {m : Option PV} (p : PE X e (tC v)) (r : ∀ d, m = some d → ∀ φ H, RV X.K ca φ H d v) : PE X e (tD X.K ca fun _ h => ob m fun v => some (v, h)) := by
  refine wkE p fun σ H Q q => ?_
  obtain ⟨φ, s, h, x, h', rs, rh, e, q⟩ := q
  obtain ⟨d, e1, e2⟩ := ob_eq e
  cases e2
  exact q v φ H Ext.refl rh (r _ e1 φ H)

/-- what an operator's reading must do with data -/
def OpD (K : PySem.W.Frag) (ca : CA) (r : R2) (f : PV → PV → PH → Option PV) : Prop :=
  ∀ (φ : Pl) (h : PH) (H : Hp) (x y z : PV) (v u : V) (Q : VK), RH K ca φ h H → RV K ca φ H x v → RV K ca φ H y u → f x y h = some z → Pst K ca φ H z h Q → r v u H Q
theorem t_bin {K : PySem.W.Frag} {r : R2} {f : PV → PV → PH → Option PV} {ma mb : Sl → PH → M PV} (od : OpD K ca r f) (σ : St) (H : Hp) (Q : VK)
    (q : tD K ca (fun s h => bd (ma s h) fun x h => bd (mb s h) fun y h => ob (f x y h) fun v => some (v, h)) σ H Q) : tOp r (tD K ca ma) (tD K ca mb) σ H Q := by
  obtain ⟨φ, s, h, x, h', rs, rh, e, q⟩ := q
  obtain ⟨x1, h1, e1, e⟩ := bd_eq e
  obtain ⟨x2, h2, e2, e⟩ := bd_eq e
  obtain ⟨z, e3, e⟩ := ob_eq e
  cases e
  refine ⟨φ, s, h, x1, h1, rs, rh, e1, fun v1 φ1 H1 y1 rh1 r1 => ⟨φ1, s, h1, x2, _, rs.ext y1, rh1, e2, fun v2 φ2 H2 y2 rh2 r2 => ?_⟩⟩
  exact od φ2 _ H2 x1 x2 _ v1 v2 Q rh2 (RV.ext y2 _ _ r1) r2 e3 fun v φ3 H3 y3 rh3 r3 => q v φ3 H3 ((y1.trans y2).trans y3) rh3 r3
theorem d_op {a b : Expr} {op : Operator} {r : R2} {f : PV → PV → PH → Option PV} {ma mb : Sl → PH → M PV} (ho : OpR X (binaryOp op) r) (od : OpD X.K ca r f) (ha : PE X a (tD X.K ca ma)) (hb : PE X b (tD X.K ca mb)) :
    PE X (.BinOp a op b pos) (tD X.K ca fun s h => bd (ma s h) fun x h => bd (mb s h) fun y h => ob (f x y h) fun v => some (v, h)) :=
  wkE (pe_op ho ha hb) (t_bin od)
theorem OpD.or {K : PySem.W.Frag} {r r' : R2} {f g : PV → PV → PH → Option PV} (a : OpD K ca r f) (b : OpD K ca r' g) : OpD K ca (fun x y H Q => r x y H Q ∨ r' x y H Q) (fun x y h => (f x y h).or (g x y h)) := by
  intro φ h H x y z v u Q rh r1 r2 e q
  cases e1 : f x y h with
  | none =>
    simp only [e1, Option.none_or] at e
    exact .inr (b φ h H x y z v u Q rh r1 r2 e q)
  | some w =>
    simp only [e1, Option.some_or] at e
    cases e
    exact .inl (a φ h H x y _ v u Q rh r1 r2 e1 q)
theorem rv_bl {K : PySem.W.Frag} {φ : Pl} {H : Hp} {b : Bool} : RV K ca φ H (.bl b) (.bl b) := rfl
theorem rv_int {K : PySem.W.Frag} {φ : Pl} {H : Hp} {b : Int} : RV K ca φ H (.int b) (.int b) := rfl
/-- two ints -/
theorem od_ii {K : PySem.W.Frag} {C : Int → Int → Prop} {g : Int → Int → V} {f : PV → PV → PH → Option PV} (hf : ∀ x y h z, f x y h = some z → ∃ i j, x = .int i ∧ y = .int j ∧ C i j ∧ ∀ φ H, RV K ca φ H z (g i j)) : OpD K ca (rI C g) f := by
  intro φ h H x y z v u Q rh r1 r2 e q
  obtain ⟨i, j, ex, ey, c, r⟩ := hf x y h z e
  subst ex ey
  exact ⟨i, j, r1, r2, c, q _ φ H Ext.refl rh (r φ H)⟩
theorem od_ii0 {K : PySem.W.Frag} {g : Int → Int → V} {f : PV → PV → PH → Option PV} (hf : ∀ x y h z, f x y h = some z → ∃ i j, x = .int i ∧ y = .int j ∧ ∀ φ H, RV K ca φ H z (g i j)) : OpD K ca (rI0 g) f := by
  intro φ h H x y z v u Q rh r1 r2 e q
  obtain ⟨i, j, ex, ey, r⟩ := hf x y h z e
  subst ex ey
  exact ⟨i, j, r1, r2, q _ φ H Ext.refl rh (r φ H)⟩
/-- a new tuple, a new list that is let loose -/
theorem new_tup {K : PySem.W.Frag} {φ : Pl} {h : PH} {H : Hp} {l : List PV} {vs : List V} {Q : VK} (rh : RH K ca φ h H) (r : RVs K ca φ H l vs) (z : l.length ≤ sizeLine) (q : Pst K ca φ H (.tup l) h Q) (p : Addr) (hp : H p = none) : Q (.ref p) (upd H p (.tup vs)) := by
  have x : Ext φ H φ (upd H p (.tup vs)) := Ext.new hp
  exact q _ φ _ x (rh.new hp) ⟨p, vs, rfl, .inl ⟨.inl upd_same, rh.off hp⟩, z, RVs.ext x l vs r⟩
theorem new_lst {K : PySem.W.Frag} {φ : Pl} {h : PH} {H : Hp} {l : List PV} {vs : List V} {Q : VK} (rh : RH K ca φ h H) (r : RVs K ca φ H l vs) (z : l.length ≤ sizeLine) (q : Pst K ca φ H (.lst l) h Q) (p : Addr) (hp : H p = none) : Q (.ref p) (upd H p (.lst vs)) := by
  have x : Ext φ H φ (upd H p (.lst vs)) := Ext.new hp
  exact q _ φ _ x (rh.new hp) ⟨p, vs, rfl, ⟨upd_same, rh.off hp⟩, z, RVs.ext x l vs r⟩
/-- a new list, at a place of its own -/
theorem new_lstR {K : PySem.W.Frag} {φ : Pl} {h : PH} {H : Hp} {l : List PV} {vs : List V} {Q : VK} (rh : RH K ca φ h H) (r : RVs K ca φ H l vs) (z : l.length ≤ sizeLine) (q : Pst K ca φ H (.ref h.length) (h ++ [.lst l]) Q) (p : Addr) (hp : H p = none) : Q (.ref p) (upd H p (.lst vs)) := by
  have kp : ∀ b, b ≠ p → b ≠ p → upd H p (HO.lst vs) b = H b := fun b hb _ => upd_ne hb
  have x : Ext φ H (φ.and (p, p)) (upd H p (.lst vs)) := Ext.make hp hp kp
  refine q _ _ _ x (rh.make (p := (p, p)) hp hp kp ⟨⟨rfl, z⟩, vs, upd_same, RVs.ext x l vs r⟩) ⟨(p, p), ?_, rfl⟩
  show (φ.l ++ [(p, p)])[h.length]? = some (p, p)
  rw [List.getElem?_append_right (by rw [rh.len]; exact Nat.le_refl _), rh.len, Nat.sub_self]
  rfl
theorem new_L {K : PySem.W.Frag} {φ : Pl} {h h' : PH} {H : Hp} {al : Bool} {l : List PV} {x : PV} {vs : List V} {Q : VK} (rh : RH K ca φ h H) (r : RVs K ca φ H l vs) (z : l.length ≤ sizeLine) (e : newL al l h = some (x, h')) (q : Pst K ca φ H x h' Q) (p : Addr) (hp : H p = none) : Q (.ref p) (upd H p (.lst vs)) := by
  cases al with
  | false => cases e; exact new_lst rh r z q p hp
  | true => cases e; exact new_lstR rh r z q p hp
end
end Lt

set_option maxRecDepth 100000
namespace Lt
open PySem PySem.Spec L2
def astOp : Op2 → Operator
  | .add => .Add | .sub => .Sub | .mul => .Mult | .fdiv => .FloorDiv | .mod => .Mod | .pow => .Pow
def rStr2 : R2 := fun x y H Q => ∃ i j, x = .str i ∧ y = .str j ∧ i.length + j.length ≤ sizeLine ∧ Q (.str (i ++ j)) H
def rOp (K : PySem.W.Frag) : Op2 → R2
  | .add => fun x y H Q => rI0 (fun i j => .int (i + j)) x y H Q ∨ rStr2 x y H Q ∨ rCatA K x y H Q ∨ rCat x y H Q
  | .sub => rI0 fun i j => .int (i - j)
  | .mul => rI CMul fun i j => .int (i * j)
  | .fdiv => rI CDiv fun i j => .int (i / j)
  | .mod => rI (fun _ j => 0 < j) fun i j => .int (i % j)
  | .pow => rI (fun i j => 0 ≤ j ∧ (Builtin.Int.intBits i : Int) * j ≤ 2 ^ 27) fun i j => .int (i ^ j.toNat)
theorem opr (X : Cx) : ∀ o : Op2, OpR X (binaryOp (astOp o)) (rOp X.K o)
  | .add => OpR.or op_add (OpR.or op_add_str (OpR.or op_catA op_cat))
  | .sub => op_sub
  | .mul => op_mul
  | .fdiv => op_fdiv
  | .mod => op_mod
  | .pow => opI fun _ _ _ _ _ _ _ hc q => PyProof.Rows.pow_int hc.1 hc.2 q
theorem sx_append (a b : Tx) : sx a ++ sx b = sx (a ++ b) := by
  show Str.append (sx a) (sx b) = _
  unfold Str.append sx
  simp
theorem sx_length (a : Tx) : (sx a).length = a.length := by
  show (sx a).cps.size = _
  simp [sx]
theorem RVs.nil_iff {K : PySem.W.Frag} {ca : CA} {φ : Pl} {H : Hp} {l : List PV} {vs : List V} (r : RVs K ca φ H l vs) : vs = [] ↔ l = [] := by
  have := r.length
  constructor
  · intro e
    subst e
    simpa using this
  · intro e
    subst e
    exact r
section
variable {K : PySem.W.Frag} {ca : CA}
theorem SqT_of {φ : Pl} {H : Hp} {a : Addr} {vs : List V} (f : Fix φ H a (.tup vs) ∨ KT K a vs) : SqT K H a vs := f.imp (fun f => f.1) id
theorem od_add : OpD K ca (rOp K .add) (fun x y _ => opV .add x y) := by
  intro φ h H x y z v u Q rh r1 r2 e q
  cases x with
  | int i => cases y with
    | int j => cases e; exact .inl ⟨i, j, r1, r2, q _ φ H Ext.refl rh rfl⟩
    | _ => cases e
  | str a => cases y with
    | str b =>
      have e' : (if a.length + b.length ≤ sizeLine then some (PV.str (a ++ b)) else none) = some z := e
      split at e'
      · rename_i hz
        cases e'
        refine .inr (.inl ⟨_, _, r1.1, r2.1, by rw [sx_length, sx_length]; exact hz, ?_⟩)
        rw [sx_append]
        refine q _ φ H Ext.refl rh ⟨rfl, by rw [List.length_append]; exact hz, ?_⟩
        rw [List.all_append, r1.2.2, r2.2.2]
        rfl
      · cases e'
    | _ => cases e
  | tup l => cases y with
    | tup m =>
      have e' : (if l.length + m.length ≤ sizeLine then some (PV.tup (l ++ m)) else none) = some z := e
      split at e'
      · rename_i hz
        cases e'
        obtain ⟨a, vs, e1, f1, z1, s1⟩ := r1
        obtain ⟨b, us, e2, f2, z2, s2⟩ := r2
        have l1 := s1.length
        have l2 := s2.length
        refine .inr (.inr (.inl ⟨a, b, vs, us, e1, e2, SqT_of f1, SqT_of f2, by omega, fun en => ?_, fun _ en => ?_, fun _ _ p hp => ?_⟩))
        · have : l = [] := s1.nil_iff.mp en
          subst this
          exact q _ φ H Ext.refl rh ⟨b, us, rfl, f2, by simpa using z2, s2⟩
        · have : m = [] := s2.nil_iff.mp en
          subst this
          rw [List.append_nil] at q
          exact q _ φ H Ext.refl rh ⟨a, vs, rfl, f1, z1, s1⟩
        · exact new_tup rh (s1.append s2) (by rw [List.length_append]; exact hz) q p hp
      · cases e'
    | _ => cases e
  | lst l => cases y with
    | lst m =>
      have e' : (if l.length + m.length ≤ sizeLine then some (PV.lst (l ++ m)) else none) = some z := e
      split at e'
      · rename_i hz
        cases e'
        obtain ⟨a, vs, e1, f1, z1, s1⟩ := r1
        obtain ⟨b, us, e2, f2, z2, s2⟩ := r2
        have l1 := s1.length
        have l2 := s2.length
        refine .inr (.inr (.inr ⟨a, b, vs, us, e1, e2, f1.1, f2.1, by omega, fun p hp => ?_⟩))
        exact new_lst rh (s1.append s2) (by rw [List.length_append]; exact hz) q p hp
      · cases e'
    | _ => cases e
  | _ => cases e
theorem ii_of {f : Int → Int → Option PV} {x y : PV} {z : PV} (e : (match x, y with | .int i, .int j => f i j | _, _ => none) = some z) : ∃ i j, x = .int i ∧ y = .int j ∧ f i j = some z := by
  cases x with
  | int i => cases y with
    | int j => exact ⟨i, j, rfl, rfl, e⟩
    | _ => cases e
  | _ => cases e
theorem if_of {p : Prop} [Decidable p] {α : Type} {x z : α} (e : (if p then some x else none) = some z) : p ∧ x = z := by
  split at e
  · exact ⟨by assumption, Option.some.inj e⟩
  · cases e
theorem opd : ∀ o : Op2, OpD K ca (rOp K o) (fun x y _ => opV o x y)
  | .add => od_add
  | .sub => od_ii0 fun x y h z e => by
    obtain ⟨i, j, ex, ey, e⟩ := ii_of (f := fun i j => some (.int (i - j))) e
    cases e
    exact ⟨i, j, ex, ey, fun _ _ => rfl⟩
  | .mul => od_ii fun x y h z e => by
    obtain ⟨i, j, ex, ey, e⟩ := ii_of (f := fun i j => if (-(2 ^ 64) < i ∧ i < 2 ^ 64) ∨ (-(2 ^ 64) < j ∧ j < 2 ^ 64) then some (.int (i * j)) else none) e
    obtain ⟨c, e⟩ := if_of e
    subst e
    exact ⟨i, j, ex, ey, c, fun _ _ => rfl⟩
  | .fdiv => od_ii fun x y h z e => by
    obtain ⟨i, j, ex, ey, e⟩ := ii_of (f := fun i j => if 0 < j ∧ j < 1073741824 then some (.int (i / j)) else none) e
    obtain ⟨c, e⟩ := if_of e
    subst e
    exact ⟨i, j, ex, ey, c, fun _ _ => rfl⟩
  | .mod => od_ii fun x y h z e => by
    obtain ⟨i, j, ex, ey, e⟩ := ii_of (f := fun i j => if 0 < j then some (.int (i % j)) else none) e
    obtain ⟨c, e⟩ := if_of e
    subst e
    exact ⟨i, j, ex, ey, c, fun _ _ => rfl⟩
  | .pow => od_ii fun x y h z e => by
    obtain ⟨i, j, ex, ey, e⟩ := ii_of (f := fun i j => if 0 ≤ j ∧ (Builtin.Int.intBits i : Int) * j ≤ 2 ^ 27 then some (.int (i ^ j.toNat)) else none) e
    obtain ⟨c, e⟩ := if_of e
    subst e
    exact ⟨i, j, ex, ey, c, fun _ _ => rfl⟩
end

section
variable {K : PySem.W.Frag} {ca : CA} {φ : Pl} {H : Hp}
mutual
theorem RV.dp : ∀ (x : PV) (v : V) (d : PyData), RV K ca φ H x v → x.py = some d → Dp K H v d ∧ d.canLay0 = true
  | .non, v, d, r, e => by
    cases e
    rw [show v = .non from r]
    exact ⟨.non, rfl⟩
  | .bl b, v, d, r, e => by
    cases e
    rw [show v = .bl b from r]
    exact ⟨.bl b, rfl⟩
  | .int b, v, d, r, e => by
    cases e
    rw [show v = .int b from r]
    exact ⟨.int b, rfl⟩
  | .str x, v, d, r, e => by
    cases e
    rw [r.1]
    refine ⟨.str _, ?_⟩
    show PySem.PyData.strOk (sx x) = true
    have := r.2.2
    unfold PySem.PyData.strOk sx
    simpa using this
  | .tup l, v, d, r, e => by
    have e' : (PV.pys l).map PyData.tuple = some d := e
    cases e1 : PV.pys l with
    | none => rw [e1] at e'; cases e'
    | some ds =>
      rw [e1] at e'
      cases e'
      obtain ⟨a, vs, ev, f, z, rs⟩ := r
      subst ev
      obtain ⟨h1, h2⟩ := RVs.dp l vs ds rs e1
      exact ⟨.tup (SqT_of f) h1, h2⟩
  | .lst l, v, d, r, e => by
    have e' : (PV.pys l).map PyData.list = some d := e
    cases e1 : PV.pys l with
    | none => rw [e1] at e'; cases e'
    | some ds =>
      rw [e1] at e'
      cases e'
      obtain ⟨a, vs, ev, f, z, rs⟩ := r
      subst ev
      obtain ⟨h1, h2⟩ := RVs.dp l vs ds rs e1
      exact ⟨.lst (.inl (.inl f.1)) h1, h2⟩
  | .dct _ _, _, _, _, e => by cases e
  | .obj _ _, _, _, _, e => by cases e
  | .ref _, _, _, _, e => by cases e
  | .scr _, _, _, _, e => by cases e
  | .rtx _, _, _, _, e => by cases e
  | .ptup _, _, _, _, e => by cases e
theorem RVs.dp : ∀ (l : List PV) (vs : List V) (ds : List PyData), RVs K ca φ H l vs → PV.pys l = some ds → DpAll K H vs ds ∧ PyData.canLayAll0 ds = true
  | [], vs, ds, r, e => by
    cases e
    rw [show vs = [] from r]
    exact ⟨.nil, rfl⟩
  | x :: l, vs, ds, r, e => by
    obtain ⟨v, us, ev, r1, r2⟩ := r
    subst ev
    have e' : (match x.py, PV.pys l with
      | some d, some r => some (d :: r)
      | _, _ => none) = some ds := e
    cases e1 : x.py with
    | none => rw [e1] at e'; cases e'
    | some d =>
      cases e2 : PV.pys l with
      | none => rw [e1, e2] at e'; cases e'
      | some r =>
        rw [e1, e2] at e'
        cases e'
        obtain ⟨h1, h2⟩ := RV.dp x v d r1 e1
        obtain ⟨g1, g2⟩ := RVs.dp l us r r2 e2
        refine ⟨.cons h1 g1, ?_⟩
        show (d.canLay0 && PyData.canLayAll0 r) = true
        rw [h2, g2]
        rfl
end
end
theorem sx_inj {x y : Tx} : sx x = sx y ↔ x = y := by
  unfold sx
  simp

/-- of two lists one of which is empty -/
def rNilE (K : PySem.W.Frag) (ne : Bool) : R2 := fun x y H Q => ∃ a b xs ys, x = .ref a ∧ y = .ref b ∧ SqL K H a xs ∧ SqL K H b ys ∧ (xs = [] ∨ ys = []) ∧ Q (.bl (ne ^^ decide (xs.length = ys.length))) H
section
variable {X : Cx}
theorem op_eqNil (hu : X.A.units + 64 < cLine) : OpR X (compareOp .Eq) (rNilE X.K false) := by
  intro pins s σ H x y v u Q I rx ry h
  obtain ⟨a, b, xs, ys, rfl, rfl, ha, hb, hn, q⟩ := h
  cases rx
  cases ry
  obtain ⟨its, r1, p1, _⟩ := I.list ha
  obtain ⟨its2, r2, p2, _⟩ := I.list hb
  have l1 := r1.length
  have l2 := r2.length
  by_cases e : xs.length = ys.length
  · have z : its = [] ∧ its2 = [] := by
      rcases hn with z | z
      · subst z
        cases r1
        have : its2.length = 0 := by rw [← l2, ← e]; rfl
        exact ⟨rfl, List.eq_nil_of_length_eq_zero this⟩
      · subst z
        cases r2
        have : its.length = 0 := by rw [← l1, e]; rfl
        exact ⟨List.eq_nil_of_length_eq_zero this, rfl⟩
    obtain ⟨z1, z2⟩ := z
    subst z1 z2
    rw [decide_eq_true e] at q
    exact SeqAt.eq_listAt (e := fun _ => true) p1.isList p2.isList rfl (by omega) (fun j h1 _ => absurd h1 (by simp)) ⟨.bl true, H, I, rfl, q⟩
  · rw [decide_eq_false e] at q
    exact SeqAt.eq_list_lengthsAt p1.isList p2.isList (by simp; omega) (by omega) ⟨.bl false, H, I, rfl, q⟩
theorem op_neNil (hu : X.A.units + 64 < cLine) : OpR X (compareOp .NotEq) (rNilE X.K true) := by
  intro pins s σ H x y v u Q I rx ry h
  obtain ⟨a, b, xs, ys, rfl, rfl, ha, hb, hn, q⟩ := h
  cases rx
  cases ry
  obtain ⟨its, r1, p1, _⟩ := I.list ha
  obtain ⟨its2, r2, p2, _⟩ := I.list hb
  have l1 := r1.length
  have l2 := r2.length
  by_cases e : xs.length = ys.length
  · have z : its = [] ∧ its2 = [] := by
      rcases hn with z | z
      · subst z
        cases r1
        have : its2.length = 0 := by rw [← l2, ← e]; rfl
        exact ⟨rfl, List.eq_nil_of_length_eq_zero this⟩
      · subst z
        cases r2
        have : its.length = 0 := by rw [← l1, e]; rfl
        exact ⟨List.eq_nil_of_length_eq_zero this, rfl⟩
    obtain ⟨z1, z2⟩ := z
    subst z1 z2
    rw [decide_eq_true e] at q
    exact SeqAt.RcNeAt.lists (e := fun _ => true) p1.isList p2.isList rfl (by omega) (fun j h1 _ => absurd h1 (by simp)) _ _ _ _ ⟨.bl false, H, I, rfl, q⟩
  · rw [decide_eq_false e] at q
    exact SeqAt.RcNeAt.lists_lengths p1.isList p2.isList (by simp; omega) (by omega) _ _ _ _ ⟨.bl true, H, I, rfl, q⟩
/-- of two tuples one of which is empty -/
def rNilT (K : PySem.W.Frag) (ne : Bool) : R2 := fun x y H Q => ∃ a b xs ys, x = .ref a ∧ y = .ref b ∧ SqT K H a xs ∧ SqT K H b ys ∧ (xs = [] ∨ ys = []) ∧ Q (.bl (ne ^^ decide (xs.length = ys.length))) H
theorem nilT_val {α β : Type} {xs ys : List β} {its its2 : List α} {e : Nat → Bool} (l1 : xs.length = its.length) (l2 : ys.length = its2.length) (hn : xs = [] ∨ ys = []) :
    ((List.range (min its.toArray.size its2.toArray.size)).all e && its.toArray.size == its2.toArray.size) = decide (xs.length = ys.length) := by
  have z : min its.toArray.size its2.toArray.size = 0 := by
    simp only [List.size_toArray]
    rcases hn with z | z
    · rw [z] at l1
      simp at l1
      omega
    · rw [z] at l2
      simp at l2
      omega
  rw [z, List.size_toArray, List.size_toArray, ← l1, ← l2]
  simp only [List.range_zero, List.all_nil, Bool.true_and]
  rfl
theorem op_eqNilT (hu : X.A.units + 64 < cLine) : OpR X (compareOp .Eq) (rNilT X.K false) := by
  intro pins s σ H x y v u Q I rx ry h
  obtain ⟨a, b, xs, ys, rfl, rfl, ha, hb, hn, q⟩ := h
  cases rx
  cases ry
  obtain ⟨its, r1, p1, _⟩ := I.tuple ha
  obtain ⟨its2, r2, p2, _⟩ := I.tuple hb
  have z : min its.toArray.size its2.toArray.size = 0 := by
    have l1 := r1.length
    have l2 := r2.length
    simp only [List.size_toArray]
    rcases hn with z | z
    · rw [z] at l1; simp at l1; omega
    · rw [z] at l2; simp at l2; omega
  refine SeqAt.eq_tupleAt (e := fun _ => true) p1 p2 (by omega) (fun j h1 h2 => absurd (Nat.lt_min.mpr ⟨h1, h2⟩) (by rw [z]; omega)) ?_
  rw [nilT_val r1.length r2.length hn]
  exact fin_bl I q (by simp)
theorem op_neNilT (hu : X.A.units + 64 < cLine) : OpR X (compareOp .NotEq) (rNilT X.K true) := by
  intro pins s σ H x y v u Q I rx ry h
  obtain ⟨a, b, xs, ys, rfl, rfl, ha, hb, hn, q⟩ := h
  cases rx
  cases ry
  obtain ⟨its, r1, p1, _⟩ := I.tuple ha
  obtain ⟨its2, r2, p2, _⟩ := I.tuple hb
  have z : min its.toArray.size its2.toArray.size = 0 := by
    have l1 := r1.length
    have l2 := r2.length
    simp only [List.size_toArray]
    rcases hn with z | z
    · rw [z] at l1; simp at l1; omega
    · rw [z] at l2; simp at l2; omega
  refine SeqAt.RcNeAt.tuples (e := fun _ => true) p1 p2 (by omega) (fun j h1 h2 => absurd (Nat.lt_min.mpr ⟨h1, h2⟩) (by rw [z]; omega)) _ _ _ _ ?_
  rw [nilT_val r1.length r2.length hn]
  exact fin_bl I q (by simp)
/-- of two texts -/
def rTxt (ne : Bool) : R2 := fun x y H Q => ∃ a b, x = .str a ∧ y = .str b ∧ Q (.bl (ne ^^ decide (a = b))) H
theorem op_eqTxt : OpR X (compareOp .Eq) (rTxt false) := by
  intro pins s σ H x y v u Q I rx ry h
  obtain ⟨a, b, rfl, rfl, q⟩ := h
  refine op_eq pins s σ H _ _ v u Q I rx ry ⟨rfl, ?_⟩
  have : decide (V.str a = V.str b) = decide (a = b) := by simp
  rw [this]
  simpa using q
theorem op_neTxt : OpR X (compareOp .NotEq) (rTxt true) := by
  intro pins s σ H x y v u Q I rx ry h
  obtain ⟨a, b, rfl, rfl, q⟩ := h
  refine op_ne pins s σ H _ _ v u Q I rx ry ⟨rfl, ?_⟩
  have : decide (V.str a = V.str b) = decide (a = b) := by simp
  rw [this]
  simpa using q
def rEqV (K : PySem.W.Frag) (ne : Bool) : R2 := fun x y H Q => (if ne then rNeD K else rEqD K) x y H Q ∨ rNilE K ne x y H Q ∨ rNilT K ne x y H Q ∨ rTxt ne x y H Q
theorem op_eqX (hu : X.A.units + 64 < cLine) : OpR X (compareOp .Eq) (rEqV X.K false) := OpR.or (op_eqD hu) (OpR.or (op_eqNil hu) (OpR.or (op_eqNilT hu) op_eqTxt))
theorem op_neX (hu : X.A.units + 64 < cLine) : OpR X (compareOp .NotEq) (rEqV X.K true) := OpR.or (op_neD hu) (OpR.or (op_neNil hu) (OpR.or (op_neNilT hu) op_neTxt))
end
theorem ie1 (l : List PV) : l.isEmpty = decide (l.length = ([] : List PV).length) := by cases l <;> simp
theorem ie2 (l : List PV) : l.isEmpty = decide (([] : List PV).length = l.length) := by cases l <;> simp
theorem od_eq {K : PySem.W.Frag} {ca : CA} (ne : Bool) : OpD K ca (rEqV K ne) (fun x y _ => (eqV x y).map fun b => .bl (ne ^^ b)) := by
  intro φ h H x y z v u Q rh r1 r2 e q
  have nil : ∀ (l m : List PV), x = .lst l → y = .lst m → (l = [] ∨ m = []) → z = .bl (ne ^^ decide (l.length = m.length)) → rEqV K ne v u H Q := by
    intro l m ex ey hn ez
    subst ex ey ez
    obtain ⟨a, vs, e1, f1, z1, s1⟩ := r1
    obtain ⟨b, us, e2, f2, z2, s2⟩ := r2
    refine .inr (.inl ⟨a, b, vs, us, e1, e2, .inl (.inl f1.1), .inl (.inl f2.1), hn.imp (fun e => s1.nil_iff.mpr e) (fun e => s2.nil_iff.mpr e), ?_⟩)
    rw [← s1.length, ← s2.length]
    exact q _ φ H Ext.refl rh rfl
  have nilT : ∀ (l m : List PV), x = .tup l → y = .tup m → (l = [] ∨ m = []) → z = .bl (ne ^^ decide (l.length = m.length)) → rEqV K ne v u H Q := by
    intro l m ex ey hn ez
    subst ex ey ez
    obtain ⟨a, vs, e1, f1, z1, s1⟩ := r1
    obtain ⟨b, us, e2, f2, z2, s2⟩ := r2
    refine .inr (.inr (.inl ⟨a, b, vs, us, e1, e2, SqT_of f1, SqT_of f2, hn.imp (fun e => s1.nil_iff.mpr e) (fun e => s2.nil_iff.mpr e), ?_⟩))
    rw [← s1.length, ← s2.length]
    exact q _ φ H Ext.refl rh rfl
  have gen : (match x.py, y.py with
      | some d, some e => if d.depth ≤ 64 ∧ e.depth ≤ 64 then some (PyData.eqv d e) else none
      | _, _ => none).map (fun b => PV.bl (ne ^^ b)) = some z → rEqV K ne v u H Q := by
    intro e
    cases e1 : x.py with
    | none => rw [e1] at e; cases e
    | some d =>
      cases e2 : y.py with
      | none => rw [e1, e2] at e; cases e
      | some d' =>
        rw [e1, e2] at e
        have e' : (if d.depth ≤ 64 ∧ d'.depth ≤ 64 then some (PyData.eqv d d') else none).map (fun b => PV.bl (ne ^^ b)) = some z := e
        split at e'
        · rename_i hd
          cases e'
          obtain ⟨p1, c1⟩ := RV.dp x v d r1 e1
          obtain ⟨p2, c2⟩ := RV.dp y u d' r2 e2
          have sh : ∀ {d : PyData}, d.canLay0 = true → d.depth ≤ 64 → SeqAt.shaped d = true := fun c hd => by
            unfold SeqAt.shaped
            rw [c, decide_eq_true hd]
            rfl
          refine .inl ?_
          cases ne with
          | false => exact ⟨d, d', p1, p2, sh c1 hd.1, sh c2 hd.2, q _ φ H Ext.refl rh (by simp [RV])⟩
          | true => exact ⟨d, d', p1, p2, sh c1 hd.1, sh c2 hd.2, q _ φ H Ext.refl rh (by simp [RV])⟩
        · cases e'
  have e3 : (eqV x y).map (fun b => PV.bl (ne ^^ b)) = some z := e
  clear e
  unfold eqV at e3
  split at e3
  · rename_i l
    cases e3
    exact nil _ [] rfl rfl (.inr rfl) (by rw [← ie1])
  · cases e3
    exact nil [] _ rfl rfl (.inl rfl) (by rw [← ie2])
  · cases e3
    exact nilT _ [] rfl rfl (.inr rfl) (by rw [← ie1])
  · cases e3
    exact nilT [] _ rfl rfl (.inl rfl) (by rw [← ie2])
  · cases e3
    exact .inr (.inr (.inr ⟨_, _, r1, r2, q _ φ H Ext.refl rh rfl⟩))
  · exact gen e3
end Lt

set_option maxRecDepth 100000
namespace Lt
open PySem PySem.Spec L2
/-- in a list, a tuple of data -/
def rInS (K : PySem.W.Frag) (ng : Bool) : R2 := fun x y H Q => ∃ d ds, Dp K H x d ∧ (Dp K H y (.list ds) ∨ Dp K H y (.tuple ds)) ∧ SeqAt.shaped d = true ∧ PyData.canLayAll0 ds = true ∧ Q (.bl (ng ^^ ds.any fun z => PyData.eqv z d)) H
def rInT (ng : Bool) : R2 := fun x y H Q => ∃ i j, x = .str i ∧ y = .str j ∧ Q (.bl (ng ^^ !(Builtin.Str.occurrences j i 0 j.length 1).isEmpty)) H
def rInDc (ng : Bool) : R2 := fun x y H Q => ∃ a o, y = .ref a ∧ DGet H a x o ∧ Q (.bl (ng ^^ o.isSome)) H
section
variable {X : Cx}
theorem op_inSeq (hu : X.A.units + 65 < cLine) : OpR X (compareOp .In) (rInS X.K false) := by
  intro pins s σ H x y v u Q I rx ry h
  obtain ⟨d, ds, hd, he, sd, se, q⟩ := h
  obtain ⟨as, r1⟩ := Dp.reads I d x v hd rx
  rw [Bool.false_xor] at q
  rcases he with he | he
  · obtain ⟨bs, r2⟩ := Dp.reads I (.list ds) y u he ry
    exact SeqAt.in_list_reads r2 r1 se (SeqAt.canLay_of_shaped sd) (PyProof.Rows.room_in_shaped sd hu) ⟨.bl _, H, I, rfl, q⟩
  · obtain ⟨bs, r2⟩ := Dp.reads I (.tuple ds) y u he ry
    exact SeqAt.in_tuple_reads r2 r1 se (SeqAt.canLay_of_shaped sd) (PyProof.Rows.room_in_shaped sd hu) ⟨.bl _, H, I, rfl, q⟩
theorem op_notInSeq (hu : X.A.units + 65 < cLine) : OpR X (compareOp .NotIn) (rInS X.K true) := by
  intro pins s σ H x y v u Q I rx ry h
  obtain ⟨d, ds, hd, he, sd, se, q⟩ := h
  obtain ⟨as, r1⟩ := Dp.reads I d x v hd rx
  rw [Bool.true_xor] at q
  rcases he with he | he
  · obtain ⟨bs, r2⟩ := Dp.reads I (.list ds) y u he ry
    exact SeqAt.notIn_list_reads r2 r1 se (SeqAt.canLay_of_shaped sd) (PyProof.Rows.room_in_shaped sd hu) ⟨.bl _, H, I, rfl, q⟩
  · obtain ⟨bs, r2⟩ := Dp.reads I (.tuple ds) y u he ry
    exact SeqAt.notIn_tuple_reads r2 r1 se (SeqAt.canLay_of_shaped sd) (PyProof.Rows.room_in_shaped sd hu) ⟨.bl _, H, I, rfl, q⟩
theorem op_inT : OpR X (compareOp .In) (rInT false) := by
  intro pins s σ H x y v u Q I rx ry h
  obtain ⟨i, j, ex, ey, q⟩ := h
  rw [Bool.false_xor] at q
  exact op_in_str pins s σ H x y v u Q I rx ry ⟨i, j, ex, ey, q⟩
theorem op_notInT : OpR X (compareOp .NotIn) (rInT true) := by
  intro pins s σ H x y v u Q I rx ry h
  obtain ⟨i, j, ex, ey, q⟩ := h
  rw [Bool.true_xor] at q
  exact op_notin_str pins s σ H x y v u Q I rx ry ⟨i, j, ex, ey, q⟩
theorem op_inDc (hu : X.A.units + 1 < cLine) : OpR X (compareOp .In) (rInDc false) := by
  intro pins s σ H x y v u Q I rx ry h
  obtain ⟨a, o, ey, g, q⟩ := h
  subst ey
  cases ry
  rw [Bool.false_xor] at q
  exact d_in hu I g rx fun s3 I3 => ⟨.bl o.isSome, H, I3, rfl, q⟩
theorem op_notInDc (hu : X.A.units + 1 < cLine) : OpR X (compareOp .NotIn) (rInDc true) := by
  intro pins s σ H x y v u Q I rx ry h
  obtain ⟨a, o, ey, g, q⟩ := h
  subst ey
  cases ry
  rw [Bool.true_xor] at q
  exact d_notIn hu I g rx fun s3 I3 => ⟨.bl (!o.isSome), H, I3, rfl, q⟩
end
theorem dk_inj {a b : DK} : dk a = dk b ↔ a = b := by
  cases a with
  | inl i => cases b with
    | inl j => simp [dk]
    | inr j => simp [dk]
  | inr i => cases b with
    | inl j => simp [dk]
    | inr j => simp [dk, sx_inj]
section
variable {K : PySem.W.Frag} {ca : CA} {φ : Pl} {H : Hp}
theorem toDK_kV {x : PV} {v : V} {k : DK} (r : RV K ca φ H x v) (e : toDK x = some k) : v = kV (dk k) := by
  cases x with
  | int i =>
    cases e
    exact r
  | str t =>
    cases e
    exact r.1
  | _ => cases e
theorem lkp_nil (k : DK) : lkp [] [] k = none := rfl
theorem lkp_cons (j : DK) (ks : List DK) (x : PV) (l : List PV) (k : DK) : lkp (j :: ks) (x :: l) k = if j = k then some x else lkp ks l k := by
  unfold lkp
  rw [List.zip_cons_cons, List.find?_cons]
  by_cases e : j = k
  · simp [e]
  · simp [e]
theorem lkp_valV : ∀ {ks : List DK} {l : List PV} {vs : List V} {k : DK}, ks.length = l.length → RVs K ca φ H l vs →
    (∀ x, lkp ks l k = some x → ∃ v, valV ((ks.map dk).zip vs) (dk k) = some v ∧ RV K ca φ H x v) ∧ (lkp ks l k = none → valV ((ks.map dk).zip vs) (dk k) = none) ∧ (hasK ks k = (lkp ks l k).isSome)
  | [], [], vs, k, _, r => by
    have e : vs = [] := r
    subst e
    exact ⟨fun x e => (by cases e), fun _ => rfl, rfl⟩
  | j :: ks, x :: l, vs, k, z, r => by
    obtain ⟨v, us, ev, r1, r2⟩ := r
    subst ev
    obtain ⟨h1, h2, h3⟩ := lkp_valV (k := k) (show ks.length = l.length by simpa using z) r2
    rw [lkp_cons, List.map_cons, List.zip_cons_cons]
    by_cases e : j = k
    · subst e
      rw [if_pos rfl, valV_pos rfl]
      refine ⟨fun y ey => ?_, fun ey => (by cases ey), ?_⟩
      · cases ey
        exact ⟨v, rfl, r1⟩
      · unfold hasK
        simp
    · have e' : ¬ dk j = dk k := fun q => e (dk_inj.mp q)
      rw [if_neg e, valV_neg e']
      refine ⟨h1, h2, ?_⟩
      rw [← h3]
      unfold hasK
      simp [e]
  | [], _ :: _, _, _, z, _ => by cases z
  | _ :: _, [], _, _, z, _ => by cases z
/-- what a dict holds -/
theorem dget_of {ks : List DK} {l : List PV} {a : Addr} {vs : List V} {k : DK} {v : V} (f : Rd H a (.dK ((ks.map dk).zip vs))) (z : ks.length = l.length) (r : RVs K ca φ H l vs) (ev : v = kV (dk k)) :
    ∃ o, DGet H a v o ∧ o.isSome = hasK ks k ∧ (∀ x, lkp ks l k = some x → ∃ u, o = some u ∧ RV K ca φ H x u) ∧ (lkp ks l k = none → o = none) := by
  obtain ⟨h1, h2, h3⟩ := lkp_valV (k := k) z r
  refine ⟨_, .inl ⟨_, dk k, f, ev, rfl⟩, ?_, h1, h2⟩
  rw [h3]
  cases e : lkp ks l k with
  | none => rw [h2 e]; rfl
  | some x =>
    obtain ⟨v, e1, _⟩ := h1 x e
    rw [e1]
    rfl
end
theorem od_in {K : PySem.W.Frag} {ca : CA} (ng : Bool) : OpD K ca (fun x y H Q => rInS K ng x y H Q ∨ rInT ng x y H Q ∨ rInDc ng x y H Q) (fun x y h => (inV h x y).map fun b => .bl (ng ^^ b)) := by
  intro φ h H x y z v u Q rh r1 r2 e q
  have seq : ∀ (l : List PV) (us : List V), RVs K ca φ H l us → ((∀ ds, DpAll K H us ds → Dp K H u (.list ds)) ∨ ∀ ds, DpAll K H us ds → Dp K H u (.tuple ds)) → (anyEq x l).map (fun b => PV.bl (ng ^^ b)) = some z → rInS K ng v u H Q := by
    intro l us rs hd e
    unfold anyEq at e
    cases e1 : x.py with
    | none => rw [e1] at e; cases e
    | some d =>
      cases e2 : PV.pys l with
      | none => rw [e1, e2] at e; cases e
      | some ds =>
        rw [e1, e2] at e
        have e' : (if d.depth ≤ 64 then some (ds.any fun z => PyData.eqv z d) else none).map (fun b => PV.bl (ng ^^ b)) = some z := e
        split at e'
        · rename_i hz
          cases e'
          obtain ⟨p1, c1⟩ := RV.dp x v d r1 e1
          obtain ⟨p2, c2⟩ := RVs.dp l us ds rs e2
          refine ⟨d, ds, p1, hd.imp (fun f => f ds p2) (fun f => f ds p2), ?_, c2, q _ φ H Ext.refl rh rfl⟩
          unfold SeqAt.shaped
          rw [c1, decide_eq_true hz]
          rfl
        · cases e'
  have dct : ∀ (ks : List DK) (l : List PV) (a : Addr) (us : List V), u = .ref a → Rd H a (.dK ((ks.map dk).zip us)) → ks.length = l.length → RVs K ca φ H l us → ((toDK x).map fun k => hasK ks k).map (fun b => PV.bl (ng ^^ b)) = some z → rInDc ng v u H Q := by
    intro ks l a us eu f hz rs e
    cases e1 : toDK x with
    | none => rw [e1] at e; cases e
    | some k =>
      rw [e1] at e
      cases e
      obtain ⟨o, g, eo, _⟩ := dget_of f hz rs (toDK_kV r1 e1)
      exact ⟨a, o, eu, g, by rw [eo]; exact q _ φ H Ext.refl rh rfl⟩
  have e0 : (inV h x y).map (fun b => PV.bl (ng ^^ b)) = some z := e
  cases y with
  | tup l =>
    obtain ⟨a, us, eu, f, _, rs⟩ := r2
    subst eu
    exact .inl (seq l us rs (.inr fun ds p => .tup (SqT_of f) p) e0)
  | lst l =>
    obtain ⟨a, us, eu, f, _, rs⟩ := r2
    subst eu
    exact .inl (seq l us rs (.inl fun ds p => .lst (.inl (.inl f.1)) p) e0)
  | str t => cases x with
    | str w =>
      cases e0
      refine .inr (.inl ⟨_, _, r1.1, r2.1, ?_⟩)
      rw [sx_length]
      exact q _ φ H Ext.refl rh rfl
    | _ => cases e0
  | dct ks l =>
    obtain ⟨a, us, eu, f, hz, rs⟩ := r2
    exact .inr (.inr (dct ks l a us eu f.1 hz rs e0))
  | ref n =>
    obtain ⟨p, ep, eu⟩ := r2
    obtain ⟨o, eo, ro⟩ := rh.pl ep
    have e1 : (match h[n]? with
      | some (.dct ks _) => (toDK x).map fun k => hasK ks k
      | some (.lst l) => anyEq x l
      | _ => none).map (fun b => PV.bl (ng ^^ b)) = some z := e0
    rw [eo] at e1
    cases o with
    | lst l =>
      obtain ⟨_, us, f, rs⟩ := ro
      subst eu
      exact .inl (seq l us rs (.inl fun ds p => .lst (.inl (.inl f)) p) e1)
    | dct ks l =>
      obtain ⟨_, us, f, hz, rs⟩ := ro
      exact .inr (.inr (dct ks l _ us eu (.inl f) hz rs e1))
    | ins c l => cases e1
  | _ => cases e0
def astCmp : Cmp → CmpOp
  | .eq => .Eq | .ne => .NotEq | .lt => .Lt | .le => .LtE | .gt => .Gt | .ge => .GtE | .in_ => .In | .notIn => .NotIn | .isN => .Is | .notN => .IsNot
def rIsN (ng : Bool) : R2 := fun x y H Q => y = .non ∧ Q (.bl (ng ^^ decide (x = .non))) H
def rCmp (K : PySem.W.Frag) : Cmp → R2
  | .eq => rEqV K false
  | .ne => rEqV K true
  | .lt => rI0 fun i j => .bl (decide (i < j))
  | .le => rI0 fun i j => .bl (decide (i ≤ j))
  | .gt => rI0 fun i j => .bl (decide (j < i))
  | .ge => rI0 fun i j => .bl (decide (j ≤ i))
  | .in_ => fun x y H Q => rInS K false x y H Q ∨ rInT false x y H Q ∨ rInDc false x y H Q
  | .notIn => fun x y H Q => rInS K true x y H Q ∨ rInT true x y H Q ∨ rInDc true x y H Q
  | .isN => rIsN false
  | .notN => rIsN true
theorem cmpr {X : Cx} (hu : X.A.units + 65 < cLine) : ∀ o : Cmp, OpR X (compareOp (astCmp o)) (rCmp X.K o)
  | .eq => op_eqX (by omega)
  | .ne => op_neX (by omega)
  | .lt => op_lt
  | .le => op_le
  | .gt => op_gt
  | .ge => op_ge
  | .in_ => OpR.or (op_inSeq hu) (OpR.or op_inT (op_inDc (by omega)))
  | .notIn => OpR.or (op_notInSeq hu) (OpR.or op_notInT (op_notInDc (by omega)))
  | .isN => fun pins s σ H x y v u Q I rx ry h => op_isN pins s σ H x y v u Q I rx ry ⟨h.1, by have := h.2; rw [Bool.false_xor] at this; exact this⟩
  | .notN => fun pins s σ H x y v u Q I rx ry h => op_notN pins s σ H x y v u Q I rx ry ⟨h.1, by have := h.2; rw [Bool.true_xor] at this; exact this⟩
theorem od_cast {K : PySem.W.Frag} {ca : CA} {r : R2} {f g : PV → PV → PH → Option PV} (o : OpD K ca r f) (e : ∀ x y h, f x y h = g x y h) : OpD K ca r g := by
  have : f = g := by funext x y h; exact e x y h
  rw [← this]
  exact o
theorem cmp_ii {f : Int → Int → Bool} {x y z : PV} (e : (match x, y with | .int i, .int j => some (f i j) | _, _ => none).map PV.bl = some z) : ∃ i j, x = .int i ∧ y = .int j ∧ z = .bl (f i j) := by
  cases x with
  | int i => cases y with
    | int j => cases e; exact ⟨i, j, rfl, rfl, rfl⟩
    | _ => cases e
  | _ => cases e
theorem od_cmp {K : PySem.W.Frag} {ca : CA} : ∀ o : Cmp, OpD K ca (rCmp K o) (fun x y h => (cmpV o x y h).map .bl)
  | .eq => od_cast (od_eq false) fun x y h => by
    show (eqV x y).map _ = (eqV x y).map PV.bl
    cases eqV x y <;> simp
  | .ne => od_cast (od_eq true) fun x y h => by
    show (eqV x y).map _ = ((eqV x y).map (!·)).map PV.bl
    cases eqV x y <;> simp
  | .in_ => od_cast (od_in false) fun x y h => by
    show (inV h x y).map _ = (inV h x y).map PV.bl
    cases inV h x y <;> simp
  | .notIn => od_cast (od_in true) fun x y h => by
    show (inV h x y).map _ = ((inV h x y).map (!·)).map PV.bl
    cases inV h x y <;> simp
  | .lt => od_ii0 fun x y h z e => by
    obtain ⟨i, j, ex, ey, ez⟩ := cmp_ii (f := fun i j => decide (i < j)) e
    exact ⟨i, j, ex, ey, fun _ _ => by rw [ez]; rfl⟩
  | .le => od_ii0 fun x y h z e => by
    obtain ⟨i, j, ex, ey, ez⟩ := cmp_ii (f := fun i j => decide (i ≤ j)) e
    exact ⟨i, j, ex, ey, fun _ _ => by rw [ez]; rfl⟩
  | .gt => od_ii0 fun x y h z e => by
    obtain ⟨i, j, ex, ey, ez⟩ := cmp_ii (f := fun i j => decide (j < i)) e
    exact ⟨i, j, ex, ey, fun _ _ => by rw [ez]; rfl⟩
  | .ge => od_ii0 fun x y h z e => by
    obtain ⟨i, j, ex, ey, ez⟩ := cmp_ii (f := fun i j => decide (j ≤ i)) e
    exact ⟨i, j, ex, ey, fun _ _ => by rw [ez]; rfl⟩
  | .isN => fun φ h H x y z v u Q rh r1 r2 e q => by
    cases y with
    | non =>
      cases e
      exact ⟨r2, by rw [Bool.false_xor, r1.none_iff]; exact q _ φ H Ext.refl rh rfl⟩
    | _ => cases e
  | .notN => fun φ h H x y z v u Q rh r1 r2 e q => by
    cases y with
    | non =>
      cases e
      exact ⟨r2, by rw [Bool.true_xor, r1.none_iff]; exact q _ φ H Ext.refl rh rfl⟩
    | _ => cases e
end Lt

set_option maxRecDepth 100000
namespace Lt
open PySem PySem.Spec L2
def rTr (K : PySem.W.Frag) (v : V) (H : Hp) (Q : Bool → Hp → Prop) : Prop := (∃ k, TruV K v H k ∧ Q k H) ∨ ∃ d kvs, v = .ref d ∧ Rd H d (.dK kvs) ∧ Q (!kvs.isEmpty) H
theorem tr_ok {X : Cx} : TruR X (rTr X.K) := by
  intro pins s σ H x v Q I rx h
  rcases h with h | ⟨d, kvs, ex, r, q⟩
  · exact tru_ok pins s σ H x v Q I rx h
  · subst ex
    cases rx
    have hs : sizeLine = 16777216 := sizeLine_eq
    obtain ⟨hz, hS, vs, rr, m⟩ : kvs.length ≤ sizeLine ∧ (d == sysModules) = false ∧ ∃ vs, KV kvs vs ∧ s.heap.DictOf (mixKind X.prog X.w) d vs := r.ok I.hok
    have hlen : kvs.length = vs.length := Paired.length rr
    exact wpAny_truthy_dict hS m (by omega) ⟨H, I.tok _, by rw [isEmpty_kv rr]; exact q⟩
section
variable {K : PySem.W.Frag} {ca : CA} {φ : Pl} {h : PH} {H : Hp}
theorem isEmpty_zip {ks : List DK} {l : List PV} {vs : List V} (z : ks.length = l.length) (r : RVs K ca φ H l vs) : ((ks.map dk).zip vs).isEmpty = ks.isEmpty := by
  have := r.length
  cases ks with
  | nil => rfl
  | cons k ks => cases vs with
    | nil => simp_all
    | cons v vs => rfl
theorem isEmpty_rvs {l : List PV} {vs : List V} (r : RVs K ca φ H l vs) : vs.isEmpty = l.isEmpty := by
  cases l with
  | nil =>
    rw [show vs = [] from r]
    rfl
  | cons x l =>
    obtain ⟨v, us, e, _⟩ := r
    rw [e]
    rfl
theorem tr_data {x : PV} {v : V} {b : Bool} {Q : Bool → Hp → Prop} (rh : RH K ca φ h H) (r : RV K ca φ H x v) (e : truthV h x = some b) (q : Q b H) : rTr K v H Q := by
  cases x with
  | non =>
    cases e
    rw [show v = .non from r]
    exact .inl ⟨false, rfl, q⟩
  | bl b =>
    cases e
    rw [show v = .bl b from r]
    exact .inl ⟨b, rfl, q⟩
  | int i =>
    cases e
    rw [show v = .int i from r]
    exact .inl ⟨_, rfl, q⟩
  | str t =>
    cases e
    rw [r.1]
    refine .inl ⟨!t.isEmpty, ⟨by rw [sx_length]; exact r.2.1, ?_⟩, q⟩
    rw [sx_length]
    cases t with
    | nil => rfl
    | cons c t =>
      rw [List.length_cons]
      have : ((t.length + 1 : Nat) : Int) ≠ 0 := by omega
      show (!false) = (((t.length + 1 : Nat) : Int) != 0)
      rw [bne_iff_ne.mpr this]
      rfl
  | tup l =>
    cases e
    obtain ⟨a, vs, ev, f, z, rs⟩ := r
    subst ev
    exact .inl ⟨_, .inr (.inl ⟨vs, SqT_of f, by rw [isEmpty_rvs rs]⟩), q⟩
  | lst l =>
    cases e
    obtain ⟨a, vs, ev, f, z, rs⟩ := r
    subst ev
    exact .inl ⟨_, .inl ⟨vs, .inl (.inl f.1), by rw [isEmpty_rvs rs]⟩, q⟩
  | dct ks l =>
    cases e
    obtain ⟨a, vs, ev, f, z, rs⟩ := r
    exact .inr ⟨a, _, ev, f.1, by rw [isEmpty_zip z rs]; exact q⟩
  | ref n =>
    obtain ⟨p, ep, ev⟩ := r
    obtain ⟨o, eo, ro⟩ := rh.pl ep
    have e' : (match h[n]? with
      | some (.lst l) => some (!l.isEmpty)
      | some (.dct ks _) => some (!ks.isEmpty)
      | _ => none) = some b := e
    rw [eo] at e'
    subst ev
    cases o with
    | lst l =>
      cases e'
      obtain ⟨_, vs, f, rs⟩ := ro
      exact .inl ⟨_, .inl ⟨vs, .inl (.inl f), by rw [isEmpty_rvs rs]⟩, q⟩
    | dct ks l =>
      cases e'
      obtain ⟨_, vs, f, z, rs⟩ := ro
      exact .inr ⟨_, _, rfl, .inl f, by rw [isEmpty_zip z rs]; exact q⟩
    | ins c l => cases e'
  | _ => cases e
end
section
variable {X : Cx} {ca : CA} {pos : Pos} {a b c : Expr}
def mTr (m : Sl → PH → M PV) : Sl → PH → M Bool := fun s h => bd (m s h) fun v h => ob (truthV h v) fun t => some (t, h)
theorem t_tr {K : PySem.W.Frag} {m : Sl → PH → M PV} {σ : St} {H : Hp} {Q : Bool → Hp → Prop} (q : tDT K ca (mTr m) σ H Q) : tD K ca m σ H fun v H1 => rTr K v H1 Q := by
  obtain ⟨φ, s, h, t, h', rs, rh, e, q⟩ := q
  obtain ⟨x, h1, e1, e⟩ := bd_eq e
  obtain ⟨t', e2, e⟩ := ob_eq e
  cases e
  exact ⟨φ, s, h, x, _, rs, rh, e1, fun v φ' H' y rh' r => tr_data rh' r e2 (q φ' H' y rh')⟩
theorem d_test {m : Sl → PH → M PV} (ha : PE X a (tD X.K ca m)) (he : ∀ whole, isTrue a X.env whole = (do let v ← whole; standAt a.pos; holding [v] (truthy v))) : PT X a (tDT X.K ca (mTr m)) := by
  refine ⟨fun pins s σ H Q I h => ?_⟩
  exact PyProof.Rows.isTrue_plain (thn (ha.run pins s σ H _ I (t_tr h)) fun v s1 ⟨x, H1, I1, r1, q1⟩ => tr_ok pins s1 σ H1 x v Q I1 r1 q1) (he _)
/-- a comparison as a test -/
theorem d_tcmp {op : CmpOp} {r : R2} {f : PV → PV → PH → Option Bool} {ma mb : Sl → PH → M PV} (ho : OpR X (compareOp op) r) (od : OpD X.K ca r (fun x y h => (f x y h).map .bl)) (ha : PE X a (tD X.K ca ma)) (hb : PE X b (tD X.K ca mb)) (hm : behindInMarks op b = false) :
    PT X (.Compare a [op] [b] pos) (tDT X.K ca (mTr fun s h => bd (ma s h) fun x h => bd (mb s h) fun y h => ob (f x y h) fun v => some (.bl v, h))) := by
  refine wkT (pt_cmpR ho ha hb hm) fun σ H Q q => ?_
  refine t_bin od σ H _ ?_
  obtain ⟨φ, s, h, t, h', rs, rh, e, q⟩ := q
  obtain ⟨x, h1, e1, e⟩ := bd_eq e
  obtain ⟨t', e2, e⟩ := ob_eq e
  cases e
  obtain ⟨x1, g1, f1, e1⟩ := bd_eq e1
  obtain ⟨x2, g2, f2, e1⟩ := bd_eq e1
  obtain ⟨w, f3, e1⟩ := ob_eq e1
  cases e1
  have ew : w = t := Option.some.inj e2
  subst ew
  refine ⟨φ, s, h, .bl w, _, rs, rh, ?_, fun v φ' H' y rh' r => ⟨w, r, q φ' H' y rh'⟩⟩
  show bd (ma s h) (fun x h => bd (mb s h) fun y h => ob ((f x y h).map PV.bl) fun v => some (v, h)) = _
  rw [f1, bd_some, f2, bd_some, f3]
  rfl
theorem d_cmp {op : CmpOp} {r : R2} {f : PV → PV → PH → Option Bool} {ma mb : Sl → PH → M PV} (ho : OpR X (compareOp op) r) (od : OpD X.K ca r (fun x y h => (f x y h).map .bl)) (ha : PE X a (tD X.K ca ma)) (hb : PE X b (tD X.K ca mb)) (hm : behindInMarks op b = false) :
    PE X (.Compare a [op] [b] pos) (tD X.K ca fun s h => bd (ma s h) fun x h => bd (mb s h) fun y h => ob (f x y h) fun v => some (.bl v, h)) := by
  refine wkE (pe_cmpR ho ha hb hm) fun σ H Q q => ?_
  refine t_bin od σ H _ ?_
  obtain ⟨φ, s, h, x, h', rs, rh, e1, q⟩ := q
  obtain ⟨x1, g1, f1, e1⟩ := bd_eq e1
  obtain ⟨x2, g2, f2, e1⟩ := bd_eq e1
  obtain ⟨w, f3, e1⟩ := ob_eq e1
  cases e1
  refine ⟨φ, s, h, .bl w, _, rs, rh, ?_, q⟩
  show bd (ma s h) (fun x h => bd (mb s h) fun y h => ob ((f x y h).map PV.bl) fun v => some (v, h)) = _
  rw [f1, bd_some, f2, bd_some, f3]
  rfl
/-- a op b op' c -/
def mChain (f g : PV → PV → PH → Option Bool) (ma mb mc : Sl → PH → M PV) : Sl → PH → M PV := fun s h => bd (ma s h) fun x h => bd (mb s h) fun y h => ob (f x y h) fun v =>
  ib v (bd (mc s h) fun z h => ob (g y z h) fun v => some (.bl v, h)) (some (.bl false, h))
theorem t_chain {K : PySem.W.Frag} {r r' : R2} {f g : PV → PV → PH → Option Bool} {ma mb mc : Sl → PH → M PV} (od : OpD K ca r (fun x y h => (f x y h).map .bl)) (od' : OpD K ca r' (fun x y h => (g x y h).map .bl)) {σ : St} {H : Hp} {Q : VK}
    (q : tD K ca (mChain f g ma mb mc) σ H Q) : tChain r r' (tD K ca ma) (tD K ca mb) (tD K ca mc) σ H Q := by
  obtain ⟨φ, s, h, x, h', rs, rh, e, q⟩ := q
  obtain ⟨x1, h1, e1, e⟩ := bd_eq e
  obtain ⟨x2, h2, e2, e⟩ := bd_eq e
  obtain ⟨k, e3, e⟩ := ob_eq e
  refine ⟨φ, s, h, x1, h1, rs, rh, e1, fun v1 φ1 H1 y1 rh1 r1 => ⟨φ1, s, h1, x2, h2, rs.ext y1, rh1, e2, fun v2 φ2 H2 y2 rh2 r2 => ?_⟩⟩
  refine od φ2 h2 H2 x1 x2 (.bl k) v1 v2 _ rh2 (RV.ext y2 _ _ r1) r2 (show (f x1 x2 h2).map PV.bl = _ by rw [e3]; rfl) fun v φ3 H3 y3 rh3 r3 => ⟨k, r3, ?_⟩
  cases k with
  | false =>
    cases e
    rw [if_neg (by decide)]
    exact q _ φ3 H3 ((y1.trans y2).trans y3) rh3 rfl
  | true =>
    rw [if_pos rfl]
    obtain ⟨x3, h3, e4, e⟩ := bd_eq (show bd (mc s h2) (fun z h => ob (g x2 z h) fun v => some (PV.bl v, h)) = some (x, h') from e)
    obtain ⟨w, e5, e⟩ := ob_eq e
    cases e
    refine ⟨φ3, s, h2, x3, _, rs.ext ((y1.trans y2).trans y3), rh3, e4, fun v4 φ4 H4 y4 rh4 r4 => ?_⟩
    exact od' φ4 _ H4 x2 x3 (.bl w) v2 v4 Q rh4 (RV.ext (y3.trans y4) _ _ r2) r4 (show (g x2 x3 _).map PV.bl = _ by rw [e5]; rfl) fun v φ5 H5 y5 rh5 r5 => q v φ5 H5 ((((y1.trans y2).trans y3).trans y4).trans y5) rh5 r5
theorem d_chain {op op' : CmpOp} {r r' : R2} {f g : PV → PV → PH → Option Bool} {ma mb mc : Sl → PH → M PV} (ho : OpR X (compareOp op) r) (ho' : OpR X (compareOp op') r') (od : OpD X.K ca r (fun x y h => (f x y h).map .bl)) (od' : OpD X.K ca r' (fun x y h => (g x y h).map .bl))
    (ha : PE X a (tD X.K ca ma)) (hb : PE X b (tD X.K ca mb)) (hc : PE X c (tD X.K ca mc)) (hm : lastMarks [op, op'] [b, c] = false) :
    PE X (.Compare a [op, op'] [b, c] pos) (tD X.K ca (mChain f g ma mb mc)) := wkE (pe_chain ho ho' ha hb hc hm) fun _ _ _ q => t_chain od od' q
theorem d_tchain {op op' : CmpOp} {r r' : R2} {f g : PV → PV → PH → Option Bool} {ma mb mc : Sl → PH → M PV} (ho : OpR X (compareOp op) r) (ho' : OpR X (compareOp op') r') (od : OpD X.K ca r (fun x y h => (f x y h).map .bl)) (od' : OpD X.K ca r' (fun x y h => (g x y h).map .bl))
    (ha : PE X a (tD X.K ca ma)) (hb : PE X b (tD X.K ca mb)) (hc : PE X c (tD X.K ca mc)) (hm : lastMarks [op, op'] [b, c] = false) :
    PT X (.Compare a [op, op'] [b, c] pos) (tDT X.K ca (mTr (mChain f g ma mb mc))) := by
  refine wkT (pt_chain ho ho' ha hb hc hm) fun σ H Q q => ?_
  refine t_chain od od' ?_
  obtain ⟨φ, s, h, t, h', rs, rh, e, q⟩ := q
  obtain ⟨x, h1, e1, e⟩ := bd_eq e
  obtain ⟨t', e2, e⟩ := ob_eq e
  cases e
  refine ⟨φ, s, h, x, _, rs, rh, e1, fun v φ' H' y rh' r => ⟨t, ?_, q φ' H' y rh'⟩⟩
  have hb : ∃ w, x = .bl w := by
    obtain ⟨x1, g1, f1, e1⟩ := bd_eq e1
    obtain ⟨x2, g2, f2, e1⟩ := bd_eq e1
    obtain ⟨w, f3, e1⟩ := ob_eq e1
    cases w with
    | false => cases e1; exact ⟨_, rfl⟩
    | true =>
      obtain ⟨x3, g3, f4, e1⟩ := bd_eq (show bd (mc s g2) (fun z h => ob (g x2 z h) fun v => some (PV.bl v, h)) = some (x, h') from e1)
      obtain ⟨w, f5, e1⟩ := ob_eq e1
      cases e1
      exact ⟨_, rfl⟩
  obtain ⟨w, ew⟩ := hb
  subst ew
  have ew : w = t := Option.some.inj e2
  subst ew
  exact r
end
section
variable {X : Cx} {ca : CA} {pos : Pos} {a b c : Expr} {rest : List Expr}
theorem d_tnot {m : Sl → PH → M Bool} (ha : PT X a (tDT X.K ca m)) : PT X (.UnaryOp .Not a pos) (tDT X.K ca fun s h => bd (m s h) fun b h => some (!b, h)) := by
  refine wkT (pt_not ha) fun σ H Q q => ?_
  obtain ⟨φ, s, h, t, h', rs, rh, e, q⟩ := q
  obtain ⟨x, h1, e1, e⟩ := bd_eq e
  cases e
  exact ⟨φ, s, h, x, _, rs, rh, e1, q⟩
theorem pe_notX {ta : TE} (ha : PE X a ta) : PE X (.UnaryOp .Not a pos) (fun σ H Q => ta σ H fun x H1 => rTr X.K x H1 fun k H2 => Q (.bl (!k)) H2) := by
  refine ⟨fun pins s σ H Q I h => ?_⟩
  refine PyProof.Rows.UnaryOp_ (thn (ha.run pins s σ H _ I h) fun v s1 ⟨x, H1, I1, r1, q1⟩ => ?_)
  exact PyProof.Rows.not_of (thn (tr_ok pins s1 σ H1 x v (fun c H2 => Q (.bl (!c)) H2) I1 r1 q1) fun c s2 ⟨H2, I2, q2⟩ => ⟨.bl (!c), H2, I2, rfl, q2⟩)
theorem d_not {m : Sl → PH → M PV} (ha : PE X a (tD X.K ca m)) : PE X (.UnaryOp .Not a pos) (tD X.K ca fun s h => bd (m s h) fun x h => ob (truthV h x) fun t => some (.bl (!t), h)) := by
  refine wkE (pe_notX ha) fun σ H Q q => ?_
  refine t_tr ?_
  obtain ⟨φ, s, h, x, h', rs, rh, e, q⟩ := q
  obtain ⟨y, h1, e1, e⟩ := bd_eq e
  obtain ⟨t, e2, e⟩ := ob_eq e
  cases e
  refine ⟨φ, s, h, t, _, rs, rh, ?_, fun φ' H' y rh' => q _ φ' H' y rh' rfl⟩
  unfold mTr
  rw [e1, bd_some, e2]
  rfl
theorem d_neg {m : Sl → PH → M PV} (ha : PE X a (tD X.K ca m)) : PE X (.UnaryOp .USub a pos) (tD X.K ca fun s h => bd (m s h) fun x h => match x with | .int i => some (.int (-i), h) | _ => none) := by
  refine wkE (pe_un un_neg ha) fun σ H Q q => ?_
  obtain ⟨φ, s, h, x, h', rs, rh, e, q⟩ := q
  obtain ⟨y, h1, e1, e⟩ := bd_eq e
  cases y with
  | int i =>
    cases e
    exact ⟨φ, s, h, _, _, rs, rh, e1, fun v φ' H' y rh' r => ⟨i, r, q _ φ' H' y rh' rfl⟩⟩
  | _ => cases e
theorem d_if {mt : Sl → PH → M Bool} {ma mb : Sl → PH → M PV} (hc : PT X c (tDT X.K ca mt)) (ha : PE X a (tD X.K ca ma)) (hb : PE X b (tD X.K ca mb)) : PE X (.IfExp c a b pos) (tD X.K ca fun s h => bd (mt s h) fun v h => ib v (ma s h) (mb s h)) := by
  refine wkE (pe_ifExp hc ha hb) fun σ H Q q => ?_
  obtain ⟨φ, s, h, x, h', rs, rh, e, q⟩ := q
  obtain ⟨t, h1, e1, e⟩ := bd_eq e
  refine ⟨φ, s, h, t, h1, rs, rh, e1, fun φ' H' y rh' => ?_⟩
  cases t with
  | true =>
    rw [if_pos rfl]
    exact ⟨φ', s, h1, x, h', rs.ext y, rh', e, fun v φ2 H2 y2 rh2 r2 => q v φ2 H2 (y.trans y2) rh2 r2⟩
  | false =>
    rw [if_neg (by decide)]
    exact ⟨φ', s, h1, x, h', rs.ext y, rh', e, fun v φ2 H2 y2 rh2 r2 => q v φ2 H2 (y.trans y2) rh2 r2⟩
def astBo : Bool → BoolOp
  | true => .And
  | false => .Or
/-- and, or as values -/
theorem pe_boX {k : Bool} {ta tb : TE} (ha : PE X a ta) (hb : PE X (.BoolOp (astBo k) (b :: rest) pos) tb) : PE X (.BoolOp (astBo k) (a :: b :: rest) pos) (fun σ H Q => ta σ H fun x H1 => rTr X.K x H1 fun t H2 => H2 = H1 ∧ if t = k then tb σ H1 Q else Q x H1) := by
  refine ⟨fun pins s σ H Q I h => ?_⟩
  cases k with
  | true =>
    refine PyProof.Rows.BoolOp_and (thn (ha.run pins s σ H _ I h) fun v s1 ⟨x, H1, I1, r1, q1⟩ => ?_)
    refine thn (tr_ok pins s1 σ H1 x v _ I1 r1 q1) fun c s2 hc => ?_
    obtain ⟨H2, I2, e, q2⟩ := hc
    subst e
    cases c with
    | true => exact hb.run pins s2 σ _ Q I2 q2
    | false => exact ⟨x, _, I2, r1, q2⟩
  | false =>
    refine PyProof.Rows.BoolOp_or (thn (ha.run pins s σ H _ I h) fun v s1 ⟨x, H1, I1, r1, q1⟩ => ?_)
    refine thn (tr_ok pins s1 σ H1 x v _ I1 r1 q1) fun c s2 hc => ?_
    obtain ⟨H2, I2, e, q2⟩ := hc
    subst e
    cases c with
    | true => exact ⟨x, _, I2, r1, q2⟩
    | false => exact hb.run pins s2 σ _ Q I2 q2
theorem d_bo1 {k : Bool} {m : Sl → PH → M PV} (ha : PE X a (tD X.K ca m)) : PE X (.BoolOp (astBo k) [a] pos) (tD X.K ca m) := pe_one ha
theorem d_bo {k : Bool} {ma mb : Sl → PH → M PV} (ha : PE X a (tD X.K ca ma)) (hb : PE X (.BoolOp (astBo k) (b :: rest) pos) (tD X.K ca mb)) :
    PE X (.BoolOp (astBo k) (a :: b :: rest) pos) (tD X.K ca fun s h => bd (ma s h) fun x h => ob (truthV h x) fun t => ib (t == k) (mb s h) (some (x, h))) := by
  refine wkE (pe_boX ha hb) fun σ H Q q => ?_
  obtain ⟨φ, s, h, x, h', rs, rh, e, q⟩ := q
  obtain ⟨y, h1, e1, e⟩ := bd_eq e
  obtain ⟨t, e2, e⟩ := ob_eq e
  refine ⟨φ, s, h, y, h1, rs, rh, e1, fun v φ' H' z rh' r => tr_data rh' r e2 ⟨rfl, ?_⟩⟩
  by_cases et : t = k
  · rw [if_pos et]
    have e3 : (t == k) = true := beq_iff_eq.mpr et
    rw [e3] at e
    exact ⟨φ', s, h1, x, h', rs.ext z, rh', e, fun v φ2 H2 y2 rh2 r2 => q v φ2 H2 (z.trans y2) rh2 r2⟩
  · rw [if_neg et]
    have e3 : (t == k) = false := beq_eq_false_iff_ne.mpr et
    rw [e3] at e
    cases e
    exact q v φ' H' z rh' r
/-- .. as tests -/
theorem d_tbo1 {k : Bool} {m : Sl → PH → M Bool} (ha : PT X a (tDT X.K ca m)) : PW X (.BoolOp (astBo k) [a] pos) (tDT X.K ca fun s h => bd (m s h) fun b h => ib (b == k) (some (k, h)) (some (b, h))) := by
  have w : ∀ (t : TT), PW X (.BoolOp (astBo k) [a] pos) t → True := fun _ _ => trivial
  have step : PW X (.BoolOp (astBo k) [a] pos) (tDT X.K ca m) := by
    cases k with
    | true => exact pw_and1 ha
    | false => exact pw_or1 ha
  refine wkW step fun σ H Q q => ?_
  obtain ⟨φ, s, h, t, h', rs, rh, e, q⟩ := q
  obtain ⟨y, h1, e1, e⟩ := bd_eq e
  have : y = t ∧ h1 = h' := by
    by_cases et : y = k
    · subst et
      rw [show (y == y) = true by simp] at e
      cases e
      exact ⟨rfl, rfl⟩
    · rw [show (y == k) = false from beq_eq_false_iff_ne.mpr et] at e
      cases e
      exact ⟨rfl, rfl⟩
  obtain ⟨z1, z2⟩ := this
  subst z1 z2
  exact ⟨φ, s, h, y, h1, rs, rh, e1, q⟩
theorem d_tbo {k : Bool} {ma mb : Sl → PH → M Bool} (ha : PT X a (tDT X.K ca ma)) (hb : PW X (.BoolOp (astBo k) (b :: rest) pos) (tDT X.K ca mb)) :
    PW X (.BoolOp (astBo k) (a :: b :: rest) pos) (tDT X.K ca fun s h => bd (ma s h) fun b h => ib (b == k) (mb s h) (some (b, h))) := by
  have go : ∀ (σ : St) (H : Hp) (Q : Bool → Hp → Prop), tDT X.K ca (fun s h => bd (ma s h) fun b h => ib (b == k) (mb s h) (some (b, h))) σ H Q → tDT X.K ca ma σ H fun c H1 => if c = k then tDT X.K ca mb σ H1 Q else Q c H1 := fun σ H Q q => by
    obtain ⟨φ, s, h, t, h', rs, rh, e, q⟩ := q
    obtain ⟨y, h1, e1, e⟩ := bd_eq e
    refine ⟨φ, s, h, y, h1, rs, rh, e1, fun φ' H' z rh' => ?_⟩
    show if y = k then tDT X.K ca mb σ H' Q else Q y H'
    by_cases et : y = k
    · rw [if_pos et]
      rw [show (y == k) = true from beq_iff_eq.mpr et] at e
      exact ⟨φ', s, h1, t, h', rs.ext z, rh', e, fun φ2 H2 y2 rh2 => q φ2 H2 (z.trans y2) rh2⟩
    · rw [if_neg et]
      rw [show (y == k) = false from beq_eq_false_iff_ne.mpr et] at e
      cases e
      exact q φ' H' z rh'
  cases k with
  | true =>
    refine wkW (pw_and ha hb) fun σ H Q q => ?_
    obtain ⟨φ, s, h, t, h', rs, rh, e, q⟩ := go σ H Q q
    refine ⟨φ, s, h, t, h', rs, rh, e, fun φ' H' z rh' => ?_⟩
    have := q φ' H' z rh'
    cases t with
    | true => exact this
    | false => exact this
  | false =>
    refine wkW (pw_or ha hb) fun σ H Q q => ?_
    obtain ⟨φ, s, h, t, h', rs, rh, e, q⟩ := go σ H Q q
    refine ⟨φ, s, h, t, h', rs, rh, e, fun φ' H' z rh' => ?_⟩
    have := q φ' H' z rh'
    cases t with
    | true => exact this
    | false => exact this
end
end Lt

set_option maxRecDepth 100000
namespace Lt
open PySem PySem.Spec L2
def rIxD : R2 := fun x y H Q => ∃ a v, x = .ref a ∧ DGet H a y (some v) ∧ Q v H
theorem ix_dict {X : Cx} (hu : X.A.units + 1 < cLine) : IxR X rIxD := by
  intro value slice pins s σ H x y v u Q I rx ry h hs
  obtain ⟨a, w, ex, g, q⟩ := h
  subst ex
  cases rx
  have hT := dict_typeIs I g
  unfold PyProof.Rows.subscriptTail
  refine wpAny_bind ?_
  rw [getitemInPython_of_ne hT.not_modules]
  refine wpAny_bind (wpAny_specialOf hT PySem.F.slot_dict_getitem.lookup ?_)
  have fin : wpAny (model X.prog X.w) X.A (subscripted slice false (.ref a) u) (fun r s₃ => wpAny (model X.prog X.w) X.A (letTemporaryGo value (.ref a) r >>= fun _ => pure r) (EP X pins σ Q) X.xe s₃) X.xe s := by
    rw [hs]
    exact wpAny_operating (wpAny_mono (d_getItem hu I g ry fun w' s3 I3 rw' => ⟨w, H, I3, rw', q⟩) (fun r s₃ h₃ => wpAny_bind (wpAny_letTemporaryGo (wpAny_pure h₃))) fun _ _ x => x)
  first
    | exact wpAny_pure (wpAny_bind fin)
    | exact wpAny_bind (wpAny_pure (wpAny_bind fin))
    | exact wpAny_bind fin
def rIxX (K : PySem.W.Frag) : R2 := fun x y H Q => rIx K x y H Q ∨ rIxD x y H Q
theorem ix_X {X : Cx} (hu : X.A.units + 1 < cLine) : IxR X (rIxX X.K) := IxR.or ix_seq (ix_dict hu)
theorem RVs.at {K : PySem.W.Frag} {ca : CA} {φ : Pl} {H : Hp} {l : List PV} {vs : List V} {i : Int} {x : PV} (r : RVs K ca φ H l vs) (e : (ixN' l.length i).bind (fun j => l[j]?) = some x) : ∃ v, atI vs i = some v ∧ RV K ca φ H x v := by
  cases e1 : ixN' l.length i with
  | none => rw [e1] at e; cases e
  | some j =>
    rw [e1] at e
    obtain ⟨v, e2, r2⟩ := r.get (show l[j]? = some x from e)
    refine ⟨v, ?_, r2⟩
    show (ixN vs.length i).bind (fun j => vs[j]?) = some v
    rw [← r.length, show ixN l.length i = some j from e1]
    exact e2
theorem od_ix {K : PySem.W.Frag} {ca : CA} : OpD K ca (rIxX K) (fun x y h => ixV h x y) := by
  intro φ h H x y z v u Q rh r1 r2 e q
  have lst : ∀ (l : List PV) (us : List V) (a : Addr) (i : Int), RVs K ca φ H l us → v = .ref a → u = .int i → (SqL K H a us ∨ SqT K H a us) → (ixN' l.length i).bind (fun j => l[j]?) = some z → rIxX K v u H Q := by
    intro l us a i rs ev eu hq e
    obtain ⟨w, e1, rw'⟩ := rs.at e
    rcases hq with hq | hq
    · exact .inl (.inl ⟨a, us, i, w, ev, eu, hq, e1, q _ φ H Ext.refl rh rw'⟩)
    · exact .inl (.inr (.inl ⟨a, us, i, w, ev, eu, hq, e1, q _ φ H Ext.refl rh rw'⟩))
  have dct : ∀ (ks : List DK) (l : List PV) (a : Addr) (us : List V), v = .ref a → Rd H a (.dK ((ks.map dk).zip us)) → ks.length = l.length → RVs K ca φ H l us → (toDK y).bind (fun k => lkp ks l k) = some z → rIxX K v u H Q := by
    intro ks l a us ev f hz rs e
    cases e1 : toDK y with
    | none => rw [e1] at e; cases e
    | some k =>
      rw [e1] at e
      obtain ⟨o, g, eo, ho, _⟩ := dget_of f hz rs (toDK_kV r2 e1)
      obtain ⟨w, ew, rw'⟩ := ho z e
      subst ew
      exact .inr ⟨a, w, ev, g, q _ φ H Ext.refl rh rw'⟩
  cases x with
  | tup l => cases y with
    | int i =>
      obtain ⟨a, us, ev, f, _, rs⟩ := r1
      exact lst l us a i rs ev r2 (.inr (SqT_of f)) e
    | _ => cases e
  | lst l => cases y with
    | int i =>
      obtain ⟨a, us, ev, f, _, rs⟩ := r1
      exact lst l us a i rs ev r2 (.inl (.inl (.inl f.1))) e
    | _ => cases e
  | scr l => cases y with
    | int i =>
      obtain ⟨a, ev, f, hl⟩ := r1
      have hq : SqL K H a (l.map V.int) := f.elim (fun f => .inl (.inr f.1)) .inr
      have e' : (ixN' l.length i).bind (fun j => (l[j]?).map PV.int) = some z := e
      cases e1 : ixN' l.length i with
      | none => rw [e1] at e'; cases e'
      | some j =>
        rw [e1] at e'
        cases e2 : l[j]? with
        | none => rw [show (some j).bind (fun j => (l[j]?).map PV.int) = (l[j]?).map PV.int from rfl, e2] at e'; cases e'
        | some w =>
          rw [show (some j).bind (fun j => (l[j]?).map PV.int) = (l[j]?).map PV.int from rfl, e2] at e'
          cases e'
          refine .inl (.inl ⟨a, _, i, .int w, ev, r2, hq, ?_, q _ φ H Ext.refl rh rfl⟩)
          show (ixN (l.map V.int).length i).bind (fun j => (l.map V.int)[j]?) = some (.int w)
          rw [List.length_map, show ixN l.length i = some j from e1]
          show (l.map V.int)[j]? = some (.int w)
          rw [List.getElem?_map, e2]
          rfl
    | _ => cases e
  | str t => cases y with
    | int i =>
      have e' : (ixN' t.length i).bind (fun j => (t[j]?).map fun c => PV.str [c]) = some z := e
      cases e1 : ixN' t.length i with
      | none => rw [e1] at e'; cases e'
      | some j =>
        rw [e1] at e'
        cases e2 : t[j]? with
        | none => rw [show (some j).bind (fun j => (t[j]?).map fun c => PV.str [c]) = (t[j]?).map (fun c => PV.str [c]) from rfl, e2] at e'; cases e'
        | some c =>
          rw [show (some j).bind (fun j => (t[j]?).map fun c => PV.str [c]) = (t[j]?).map (fun c => PV.str [c]) from rfl, e2] at e'
          cases e'
          refine .inl (.inr (.inr ⟨sx t, i, c, r1.1, r2, by rw [sx_length]; exact r1.2.1, ?_, q _ φ H Ext.refl rh ⟨rfl, Nat.le_trans (show [c].length ≤ 1 from Nat.le_refl 1) (by rw [sizeLine_eq]; decide), ?_⟩⟩))
          · show (ixN (sx t).cps.toList.length i).bind (fun j => (sx t).cps.toList[j]?) = some c
            have : (sx t).cps.toList = t := by simp [sx]
            rw [this, show ixN t.length i = some j from e1]
            exact e2
          · have := List.all_eq_true.mp r1.2.2 c (List.mem_of_getElem? e2)
            simp only [List.all_cons, List.all_nil, Bool.and_true]
            exact this
    | _ => cases e
  | dct ks l =>
    obtain ⟨a, us, ev, f, hz, rs⟩ := r1
    exact dct ks l a us ev f.1 hz rs e
  | ref n =>
    obtain ⟨p, ep, ev⟩ := r1
    obtain ⟨o, eo, ro⟩ := rh.pl ep
    have e' : ixV h (.ref n) y = some z := e
    unfold ixV at e'
    simp only [eo] at e'
    cases o with
    | lst l =>
      obtain ⟨_, us, f, rs⟩ := ro
      cases y with
      | int i => exact lst l us _ i rs ev r2 (.inl (.inl (.inl f))) e'
      | _ => cases e'
    | dct ks l =>
      obtain ⟨_, us, f, hz, rs⟩ := ro
      exact dct ks l _ us ev (.inl f) hz rs e'
    | ins c l => cases e'
  | _ => cases e
theorem d_ix {X : Cx} {ca : CA} {a b : Expr} {pos : Pos} {ma mb : Sl → PH → M PV} (hu : X.A.units + 1 < cLine) (ha : PE X a (tD X.K ca ma)) (hb : PE X b (tD X.K ca mb)) (hs : PlainIx b) :
    PE X (.Subscript a b pos) (tD X.K ca fun s h => bd (ma s h) fun x h => bd (mb s h) fun y h => ob (ixV h x y) fun v => some (v, h)) :=
  wkE (pe_ix (ix_X hu) ha hb hs) (t_bin od_ix)
theorem endN_eq (n d : Nat) (o : Option Int) : endN n d o = HT.sIx n d o := by cases o <;> rfl
theorem cutL_eq {α : Type} (l : List α) (lo hi : Option Int) : cutL l lo hi = (l.drop (HT.sIx l.length 0 lo)).take (HT.sIx l.length l.length hi - HT.sIx l.length 0 lo) := by
  unfold cutL
  rw [endN_eq, endN_eq]
def rSlX (K : PySem.W.Frag) : V → Option Int → Option Int → Hp → VK → Prop := fun x lo hi H Q => rSlA K x lo hi H Q ∨ rSlL K x lo hi H Q ∨ rSlS x lo hi H Q
theorem sl_X {X : Cx} : SlR X (rSlX X.K) := SlR.or sl_tupA (SlR.or sl_list sl_str)
theorem cutL_length {α : Type} (l : List α) (lo hi : Option Int) : (cutL l lo hi).length ≤ l.length := by
  unfold cutL
  rw [List.length_take, List.length_drop]
  omega
theorem sl_data {K : PySem.W.Frag} {ca : CA} {φ : Pl} {h : PH} {H : Hp} {x z : PV} {v : V} {lo hi : Option Int} {Q : VK} (rh : RH K ca φ h H) (r : RV K ca φ H x v) (e : slV x lo hi = some z) (q : Pst K ca φ H z h Q) : rSlX K v lo hi H Q := by
  have cut : ∀ (l : List PV) (vs : List V), RVs K ca φ H l vs → RVs K ca φ H (cutL l lo hi) (cutV vs lo hi) := fun l vs rs => by
    rw [cutL_eq]
    unfold cutV
    rw [← rs.length]
    exact (rs.drop _).take _
  cases x with
  | tup l =>
    cases e
    obtain ⟨a, vs, ev, f, hz, rs⟩ := r
    refine .inl ⟨a, vs, ev, SqT_of f, fun ⟨w1, w2⟩ => ?_, fun _ p hp => ?_⟩
    · have : cutL l lo hi = l := by
        rw [cutL_eq, rs.length, w1, w2, List.drop_zero, Nat.sub_zero, ← rs.length, List.take_length]
      rw [this] at q
      exact q _ φ H Ext.refl rh ⟨a, vs, rfl, f, hz, rs⟩
    · exact new_tup rh (cut l vs rs) (Nat.le_trans (cutL_length _ _ _) hz) q p hp
  | lst l =>
    cases e
    obtain ⟨a, vs, ev, f, hz, rs⟩ := r
    exact .inr (.inl ⟨a, vs, ev, .inl (.inl f.1), fun p hp => new_lst rh (cut l vs rs) (Nat.le_trans (cutL_length _ _ _) hz) q p hp⟩)
  | str t =>
    cases e
    refine .inr (.inr ⟨sx t, r.1, by rw [sx_length]; exact r.2.1, ?_⟩)
    have : cutS (sx t) lo hi = sx (cutL t lo hi) := by
      unfold cutS
      rw [cutL_eq, sx_length]
    rw [this]
    refine q _ φ H Ext.refl rh ⟨rfl, Nat.le_trans (cutL_length _ _ _) r.2.1, ?_⟩
    rw [List.all_eq_true]
    intro c hc
    refine List.all_eq_true.mp r.2.2 c ?_
    unfold cutL at hc
    exact List.mem_of_mem_drop (List.mem_of_mem_take hc)
  | _ => cases e
/-- a slice's part -/
def tDP (K : PySem.W.Frag) (ca : CA) (no : Bool) (m : Sl → PH → M PV) : TO := fun σ H Q => ∃ φ s h x h' o, RS K ca φ H s σ ∧ RH K ca φ h H ∧ m s h = some (x, h') ∧ partV no x = some o ∧ ∀ φ' H', Ext φ H φ' H' → RH K ca φ' h' H' → Q o H'
theorem wkO {X : Cx} {e : Option Expr} {t t' : TO} (h : L2.PO X e t) (w : ∀ σ H Q, t' σ H Q → t σ H Q) : L2.PO X e t' := ⟨fun pins s σ H Q I hq => h.run pins s σ H Q I (w _ _ _ hq)⟩
theorem d_po {X : Cx} {ca : CA} {e : Expr} {m : Sl → PH → M PV} (h : PE X e (tD X.K ca m)) : L2.PO X (some e) (tDP X.K ca false m) := by
  refine wkO (po_some h) fun σ H Q q => ?_
  obtain ⟨φ, s, h, x, h', o, rs, rh, e1, e2, q⟩ := q
  cases x with
  | int i =>
    cases e2
    exact ⟨φ, s, h, _, h', rs, rh, e1, fun v φ' H' y rh' r => ⟨i, r, q φ' H' y rh'⟩⟩
  | _ => cases e2
theorem d_po0 {X : Cx} {ca : CA} : L2.PO X none (tDP X.K ca true fun _ h => some (.non, h)) := by
  refine wkO po_none fun σ H Q q => ?_
  obtain ⟨φ, s, h, x, h', o, rs, rh, e1, e2, q⟩ := q
  cases e1
  cases e2
  exact q φ H Ext.refl rh
theorem d_sl {X : Cx} {ca : CA} {a : Expr} {lo hi : Option Expr} {n1 n2 : Bool} {pos p2 : Pos} {ma m1 m2 : Sl → PH → M PV} (ha : PE X a (tD X.K ca ma)) (h1 : L2.PO X lo (tDP X.K ca n1 m1)) (h2 : L2.PO X hi (tDP X.K ca n2 m2)) :
    PE X (.Subscript a (.Slice lo hi none p2) pos) (tD X.K ca fun s h => bd (ma s h) fun x h => bd (m1 s h) fun y h => ob (partV n1 y) fun y => bd (m2 s h) fun z h => ob (partV n2 z) fun z => ob (slV x y z) fun v => some (v, h)) := by
  refine wkE (pe_slice sl_X ha h1 h2) fun σ H Q q => ?_
  obtain ⟨φ, s, h, w, h', rs, rh, e, q⟩ := q
  obtain ⟨x, g1, e1, e⟩ := bd_eq e
  obtain ⟨y, g2, e2, e⟩ := bd_eq e
  obtain ⟨o1, e3, e⟩ := ob_eq e
  obtain ⟨z, g3, e4, e⟩ := bd_eq e
  obtain ⟨o2, e5, e⟩ := ob_eq e
  obtain ⟨v, e6, e⟩ := ob_eq e
  cases e
  refine ⟨φ, s, h, x, g1, rs, rh, e1, fun v1 φ1 H1 y1 rh1 r1 => ⟨φ1, s, g1, y, g2, o1, rs.ext y1, rh1, e2, e3, fun φ2 H2 y2 rh2 => ⟨φ2, s, g2, z, _, o2, rs.ext (y1.trans y2), rh2, e4, e5, fun φ3 H3 y3 rh3 => ?_⟩⟩⟩
  exact sl_data rh3 (RV.ext (y2.trans y3) _ _ r1) e6 fun v φ4 H4 y4 rh4 r4 => q v φ4 H4 (((y1.trans y2).trans y3).trans y4) rh4 r4
section
variable {X : Cx} {ca : CA} {e : Expr} {es : List Expr} {pos : Pos} {m : Sl → PH → M PV} {ml : Sl → PH → M (List PV)}
theorem d_nil : PA X [] (tDA X.K ca fun _ h => some ([], h)) := by
  refine wkA pa_nil fun σ H Q q => ?_
  obtain ⟨φ, s, h, l, h', rs, rh, e, q⟩ := q
  cases e
  exact q [] φ H Ext.refl rh rfl
theorem d_cons (ha : PE X e (tD X.K ca m)) (hr : PA X es (tDA X.K ca ml)) (hs : starEach (e :: es) X.env = (false, eval e X.env) :: starEach es X.env) : PA X (e :: es) (tDA X.K ca fun s h => bd (m s h) fun x h => bd (ml s h) fun vs h => some (x :: vs, h)) := by
  refine wkA (pa_cons ha hr hs) fun σ H Q q => ?_
  obtain ⟨φ, s, h, l, h', rs, rh, e, q⟩ := q
  obtain ⟨x, h1, e1, e⟩ := bd_eq e
  obtain ⟨r, h2, e2, e⟩ := bd_eq e
  cases e
  exact ⟨φ, s, h, x, h1, rs, rh, e1, fun v φ1 H1 y1 rh1 r1 => ⟨φ1, s, h1, r, _, rs.ext y1, rh1, e2, fun vs φ2 H2 y2 rh2 r2 => q (v :: vs) φ2 H2 (y1.trans y2) rh2 (RVs.cons (RV.ext y2 _ _ r1) r2)⟩⟩
theorem d_star {p : Pos} (ha : PE X e (tD X.K ca m)) (hr : PA X es (tDA X.K ca ml)) : PA X (.Starred e p :: es) (tDA X.K ca fun s h => bd (m s h) fun x h => ob (seqV x) fun xs => bd (ml s h) fun vs h => some (xs ++ vs, h)) := by
  refine wkA (StX.pa_star ha hr rfl) fun σ H Q q => ?_
  obtain ⟨φ, s, h, l, h', rs, rh, e, q⟩ := q
  obtain ⟨x, h1, e1, e⟩ := bd_eq e
  obtain ⟨xs, e3, e⟩ := ob_eq e
  obtain ⟨r, h2, e2, e⟩ := bd_eq e
  cases e
  refine ⟨φ, s, h, x, h1, rs, rh, e1, fun v φ1 H1 y1 rh1 r1 => ?_⟩
  have fin : ∀ us : List V, RVs X.K ca φ1 H1 xs us → tDA X.K ca ml σ H1 fun ys H2 => Q (us ++ ys) H2 := fun us ru =>
    ⟨φ1, s, h1, r, _, rs.ext y1, rh1, e2, fun vs φ2 H2 y2 rh2 r2 => q (us ++ vs) φ2 H2 (y1.trans y2) rh2 ((RVs.ext y2 _ _ ru).append r2)⟩
  cases x with
  | tup l =>
    cases e3
    obtain ⟨a, us, ev, f, _, ru⟩ := r1
    exact ⟨a, us, ev, .inl (SqT_of f), fin us ru⟩
  | lst l =>
    cases e3
    obtain ⟨a, us, ev, f, _, ru⟩ := r1
    exact ⟨a, us, ev, .inr (.inl (.inl f.1)), fin us ru⟩
  | _ => cases e3
theorem d_tup {x1 : Nat} (ha : PA X es (tDA X.K ca ml)) : PE X (.Tuple es x1 pos) (tD X.K ca fun s h => bd (ml s h) fun vs h => if vs.length ≤ sizeLine then some (.tup vs, h) else none) := by
  refine wkE (pe_tup ha) fun σ H Q q => ?_
  obtain ⟨φ, s, h, w, h', rs, rh, e, q⟩ := q
  obtain ⟨l, h1, e1, e⟩ := bd_eq e
  obtain ⟨hz, e⟩ := if_of e
  cases e
  exact ⟨φ, s, h, l, _, rs, rh, e1, fun vs φ1 H1 y1 rh1 r1 => ⟨by rw [← r1.length]; exact hz, fun p hp => new_tup rh1 r1 hz (fun v φ2 H2 y2 rh2 r2 => q v φ2 H2 (y1.trans y2) rh2 r2) p hp⟩⟩
theorem d_lst {al : Bool} (ha : PA X es (tDA X.K ca ml)) : PE X (.List es pos) (tD X.K ca fun s h => bd (ml s h) fun vs h => if vs.length ≤ sizeLine then newL al vs h else none) := by
  refine wkE (pe_lst ha) fun σ H Q q => ?_
  obtain ⟨φ, s, h, w, h', rs, rh, e, q⟩ := q
  obtain ⟨l, h1, e1, e⟩ := bd_eq e
  by_cases hz : l.length ≤ sizeLine
  · rw [if_pos hz] at e
    exact ⟨φ, s, h, l, _, rs, rh, e1, fun vs φ1 H1 y1 rh1 r1 => ⟨by rw [← r1.length]; exact hz, fun p hp => new_L rh1 r1 hz e (fun v φ2 H2 y2 rh2 r2 => q v φ2 H2 (y1.trans y2) rh2 r2) p hp⟩⟩
  · rw [if_neg hz] at e
    cases e
end
end Lt

set_option maxRecDepth 100000
namespace Lt
open PySem PySem.Spec L2
def gNames : List Nat → TGs
  | [] => gNil
  | i :: is => gCons (gName i) (gNames is)
def gOf (K : PySem.W.Frag) : Tg → TG
  | .name i => gName i
  | .tup is => gTup K is.length (gNames is)
def Tg.ids : Tg → List Nat
  | .name i => [i]
  | .tup is => is
def setA : List Nat → List V → St → St
  | i :: is, v :: us, σ => setA is us (σ.set i (some v))
  | _, _, σ => σ
section
variable {K : PySem.W.Frag} {ca : CA} {φ φ' : Pl} {H H' : Hp} {s s' : Sl} {σ : St}
theorem gNames_of : ∀ {is : List Nat} {us : List V} {σ : St} {H : Hp} {Q : St → Hp → Prop}, us.length = is.length → Q (setA is us σ) H → gNames is us σ H Q
  | [], [], _, _, _, _, q => ⟨rfl, q⟩
  | i :: is, v :: us, σ, H, Q, e, q => ⟨v, us, rfl, gNames_of (is := is) (by simpa using e) q⟩
/-- the slots that are known, but for some -/
def RSb (K : PySem.W.Frag) (ca : CA) (φ : Pl) (H : Hp) (vs : List Nat) (s : Sl) (σ : St) : Prop := s.length = σ.length ∧ ∀ (i : Nat) (x : PV), s[i]? = some (some x) → (∃ v, σ[i]? = some (some v) ∧ RV K ca φ H x v) ∨ i ∈ vs
theorem RSb.step {i : Nat} {vs : List Nat} {d : PV} {v : V} (r : RSb K ca φ H (i :: vs) s σ) (q : RV K ca φ H d v) : RSb K ca φ H vs (s.set i (some d)) (σ.set i (some v)) := by
  refine ⟨by rw [List.length_set, List.length_set]; exact r.1, fun j x e => ?_⟩
  by_cases hj : i = j
  · subst hj
    by_cases hl : i < s.length
    · rw [List.getElem?_set_self hl] at e
      cases e
      exact .inl ⟨v, List.getElem?_set_self (by rw [← r.1]; exact hl), q⟩
    · rw [List.getElem?_eq_none (by rw [List.length_set]; omega)] at e
      cases e
  · rw [List.getElem?_set_ne hj] at e
    rcases r.2 j x e with ⟨u, e1, r1⟩ | h
    · exact .inl ⟨u, by rw [List.getElem?_set_ne hj]; exact e1, r1⟩
    · rcases List.mem_cons.mp h with h | h
      · exact absurd h.symm hj
      · exact .inr h
theorem RSb.all : ∀ {is : List Nat} {xs : List PV} {us : List V} {s : Sl} {σ : St}, xs.length = is.length → RSb K ca φ H is s σ → RVs K ca φ H xs us → RS K ca φ H (setAll is xs s) (setA is us σ)
  | [], [], us, s, σ, _, r, rs => by
    have e : us = [] := rs
    subst e
    exact ⟨r.1, fun i x e => (r.2 i x e).elim id fun z => absurd z (by simp)⟩
  | i :: is, x :: xs, us, s, σ, e, r, rs => by
    obtain ⟨v, us', e1, r1, r2⟩ := rs
    subst e1
    exact RSb.all (is := is) (by simpa using e) (r.step r1) r2
theorem RS.b {vs : List Nat} (r : RS K ca φ H s σ) : RSb K ca φ H vs s σ := ⟨r.1, fun i x e => .inl (r.2 i x e)⟩
/-- an item stored -/
theorem asg_ok {tg : Tg} {x : PV} {v : V} {Q : St → Hp → Prop} (r : RSb K ca φ H tg.ids s σ) (rv : RV K ca φ H x v) (e : asg tg x s = some s') (q : ∀ us, RS K ca φ H s' (setA tg.ids us σ) → Q (setA tg.ids us σ) H) : gOf K tg v σ H Q := by
  cases tg with
  | name i =>
    cases e
    exact q [v] (RSb.all (is := [i]) (xs := [x]) (us := [v]) rfl r (RVs.one rv))
  | tup is =>
    cases x with
    | tup l =>
      have e' : (if l.length = is.length then some (setAll is l s) else none) = some s' := e
      split at e'
      · rename_i hl
        cases e'
        obtain ⟨a, us, ev, f, _, rs⟩ := rv
        have hu : us.length = is.length := by rw [← rs.length]; exact hl
        exact ⟨a, us, ev, SqT_of f, hu, gNames_of hu (q us (RSb.all hl r rs))⟩
      · cases e'
    | _ => cases e
theorem wipe_get {σ : St} {i : Nat} : ∀ {vs : List Nat}, i ∉ vs → (wipe σ vs)[i]? = σ[i]?
  | [], _ => rfl
  | v :: vs, h => by
    simp only [List.mem_cons, not_or] at h
    unfold wipe
    rw [List.getElem?_set_ne (fun z => h.1 z.symm)]
    exact wipe_get h.2
theorem wipe_none {σ : St} {i : Nat} : ∀ {vs : List Nat}, i ∈ vs → i < σ.length → (wipe σ vs)[i]? = some none
  | v :: vs, h, hl => by
    unfold wipe
    by_cases e : v = i
    · subst e
      exact List.getElem?_set_self (by rw [wipe_length]; exact hl)
    · rw [List.getElem?_set_ne e]
      exact wipe_none ((List.mem_cons.mp h).resolve_left (fun z => e z.symm)) hl
theorem wipe_eq {σ σ2 : St} {vs : List Nat} (hl : σ2.length = σ.length) (h : ∀ i, i ∉ vs → σ2[i]? = σ[i]?) : wipe σ2 vs = wipe σ vs := by
  refine List.ext_getElem? fun i => ?_
  by_cases hi : i ∈ vs
  · by_cases hb : i < σ.length
    · rw [wipe_none hi hb, wipe_none hi (by rw [hl]; exact hb)]
    · rw [List.getElem?_eq_none (by rw [wipe_length]; omega), List.getElem?_eq_none (by rw [wipe_length]; omega)]
  · rw [wipe_get hi, wipe_get hi]
    exact h i hi
theorem setA_length : ∀ {is : List Nat} {us : List V} {σ : St}, (setA is us σ).length = σ.length
  | [], _, _ => rfl
  | _ :: _, [], _ => rfl
  | i :: is, v :: us, σ => by
    show (setA is us (σ.set i (some v))).length = σ.length
    rw [setA_length (is := is), List.length_set]
theorem setA_get : ∀ {is : List Nat} {us : List V} {σ : St} {j : Nat}, j ∉ is → (setA is us σ)[j]? = σ[j]?
  | [], _, _, _, _ => rfl
  | _ :: _, [], _, _, _ => rfl
  | i :: is, v :: us, σ, j, h => by
    simp only [List.mem_cons, not_or] at h
    show (setA is us (σ.set i (some v)))[j]? = σ[j]?
    rw [setA_get h.2, List.getElem?_set_ne (fun z => h.1 z.symm)]
theorem RS.wiped {vs ids : List Nat} (r : RS K ca φ H s σ) (h : ∀ i ∈ vs, i ∈ ids) : RSb K ca φ H ids s (wipe σ vs) := by
  refine ⟨by rw [wipe_length]; exact r.1, fun i x e => ?_⟩
  by_cases hi : i ∈ vs
  · exact .inr (h i hi)
  · obtain ⟨v, e1, r1⟩ := r.2 i x e
    exact .inl ⟨v, by rw [wipe_get hi]; exact e1, r1⟩
theorem wipe_setA {vs ids : List Nat} {us : List V} (h : ∀ i ∈ ids, i ∈ vs) : wipe (setA ids us (wipe σ vs)) vs = wipe σ vs := by
  refine wipe_eq (by rw [setA_length, wipe_length]) fun i hi => ?_
  rw [setA_get (fun z => hi (h i z)), wipe_get hi]
end

structure ItOk (K : PySem.W.Frag) (ca : CA) (J : L2.It) (xs : List PV) (φ : Pl) (H : Hp) : Prop where
  sz : xs.length ≤ sizeLine
  go : ∀ (i : Nat) (x : PV) (φ' : Pl) (H' : Hp), xs[i]? = some x → Ext0 φ H φ' H' → J.go i H' ∧ ∀ (v : V) (H2 : Hp) (h : PH), RH K ca φ' h H' → J.yld i H' v H2 → Ext φ' H' φ' H2 ∧ RH K ca φ' h H2 ∧ RV K ca φ' H2 x v
  stop : ∀ (i : Nat) (φ' : Pl) (H' : Hp), xs.length ≤ i → Ext0 φ H φ' H' → J.stop i H'
section
variable (K : PySem.W.Frag) (ca : CA)
def tDI (m : Sl → PH → M (List PV)) : TI := fun σ H R => ∃ φ s h xs h', RS K ca φ H s σ ∧ RH K ca φ h H ∧ m s h = some (xs, h') ∧ ∀ J φ' H', Ext φ H φ' H' → RH K ca φ' h' H' → ItOk K ca J xs φ' H' → R J H'
end
section
variable {K : PySem.W.Frag} {ca : CA} {φ φ' : Pl} {H H' : Hp}
theorem ItOk.list {l : List PV} {vs : List V} {a : Addr} (z : l.length ≤ sizeLine) (f : Fx1 φ H a (.lst vs)) (r : RVs K ca φ H l vs) : ItOk K ca (Itl K a) l φ H := by
  refine ⟨z, fun i x φ' H' e y => ?_, fun i φ' H' e y => ?_⟩
  · have f' := f.ext y
    obtain ⟨v, e1, r1⟩ := RVs.get (RVs.ext y _ _ r) e
    refine ⟨⟨vs, v, .inl (.inl f'.1), e1⟩, fun w H2 h rh yl => ?_⟩
    obtain ⟨eH, yl⟩ := yl
    subst eH
    have := yl vs (.inl (.inl f'.1))
    rw [e1] at this
    cases this
    exact ⟨Ext.refl, rh, r1⟩
  · exact ⟨vs, .inl (.inl (f.ext y).1), by rw [← r.length]; exact e⟩
theorem ItOk.tup {l : List PV} {vs : List V} {a : Addr} (z : l.length ≤ sizeLine) (f : Fix φ H a (.tup vs) ∨ KT K a vs) (r : RVs K ca φ H l vs) : ItOk K ca (Itt K a) l φ H := by
  refine ⟨z, fun i x φ' H' e y => ?_, fun i φ' H' e y => ?_⟩
  · have f' : Fix φ' H' a (.tup vs) ∨ KT K a vs := f.imp (fun f => f.ext y) id
    obtain ⟨v, e1, r1⟩ := RVs.get (RVs.ext y _ _ r) e
    refine ⟨⟨vs, v, SqT_of f', e1⟩, fun w H2 h rh yl => ?_⟩
    obtain ⟨eH, yl⟩ := yl
    subst eH
    have := yl vs (SqT_of f')
    rw [e1] at this
    cases this
    exact ⟨Ext.refl, rh, r1⟩
  · have f' : Fix φ' H' a (.tup vs) ∨ KT K a vs := f.imp (fun f => f.ext y) id
    exact ⟨vs, SqT_of f', by rw [← r.length]; exact e⟩
theorem ItOk.str {x : Tx} (z : x.length ≤ sizeLine) (c : x.all (· < 0x110000) = true) : ItOk K ca (Its (sx x)) (x.map fun c => PV.str [c]) φ H := by
  have hs : (sx x).cps.size = x.length := by simp [sx]
  refine ⟨by rw [List.length_map]; exact z, fun i y φ' H' e w => ?_, fun i φ' H' e w => ?_⟩
  · rw [List.getElem?_map] at e
    cases e1 : x[i]? with
    | none => rw [e1] at e; cases e
    | some k =>
      rw [e1] at e
      cases e
      refine ⟨by show i < (sx x).cps.size; rw [hs]; exact (List.getElem?_eq_some_iff.mp e1).1, fun v H2 h rh yl => ?_⟩
      obtain ⟨eH, k', e2, ev⟩ := yl
      subst eH ev
      have : x.toArray[i]? = some k' := e2
      rw [List.getElem?_toArray, e1] at this
      cases this
      refine ⟨Ext.refl, rh, rfl, Nat.le_trans (show [k].length ≤ 1 from Nat.le_refl 1) (by rw [sizeLine_eq]; decide), ?_⟩
      simp only [List.all_cons, List.all_nil, Bool.and_true]
      exact List.all_eq_true.mp c k (List.mem_of_getElem? e1)
  · show (sx x).cps.size ≤ i
    rw [hs]
    rw [List.length_map] at e
    exact e
theorem rngL_length (lo : Int) : ∀ n, (rngL lo n).length = n
  | 0 => rfl
  | n + 1 => by show (rngL (lo + 1) n).length + 1 = n + 1; rw [rngL_length (lo + 1) n]
theorem rngL_get (lo : Int) : ∀ (n i : Nat) (x : PV), (rngL lo n)[i]? = some x → i < n ∧ x = .int (lo + i)
  | 0, i, x, e => by simp [rngL] at e
  | n + 1, 0, x, e => by
    simp [rngL] at e
    exact ⟨by omega, by rw [← e]; simp⟩
  | n + 1, i + 1, x, e => by
    have e' : (rngL (lo + 1) n)[i]? = some x := by simpa [rngL] using e
    obtain ⟨h1, h2⟩ := rngL_get (lo + 1) n i x e'
    exact ⟨by omega, by rw [h2]; congr 1; omega⟩
theorem ItOk.rng {lo : Int} {n : Nat} (z : n ≤ sizeLine) : ItOk K ca (Itr lo n) (rngL lo n) φ H := by
  refine ⟨by rw [rngL_length]; exact z, fun i x φ' H' e y => ?_, fun i φ' H' e y => by rw [rngL_length] at e; exact e⟩
  obtain ⟨h1, h2⟩ := rngL_get lo n i x e
  refine ⟨h1, fun v H2 h rh yl => ?_⟩
  obtain ⟨eH, ev⟩ := yl
  subst eH ev h2
  exact ⟨Ext.refl, rh, rfl⟩
end
theorem PI.or {X : Cx} {tg e : Expr} {w w' : TI} (h : PI X tg e w) (h' : PI X tg e w') : PI X tg e (fun σ H R => w σ H R ∨ w' σ H R) :=
  ⟨fun pins s σ H R I q => q.elim (h.run pins s σ H R I) (h'.run pins s σ H R I)⟩
theorem wkI {X : Cx} {tg e : Expr} {w w' : TI} (h : PI X tg e w) (k : ∀ σ H R, w' σ H R → w σ H R) : PI X tg e w' := ⟨fun pins s σ H R I q => h.run pins s σ H R I (k _ _ _ q)⟩
/-- what is walked as it stands: a list, a tuple, a text -/
def itSeq1 : PV → Option (List PV)
  | .tup l => some l
  | .lst l => some l
  | .str x => some (x.map fun c => .str [c])
  | _ => none
section
variable {X : Cx} {ca : CA} {tg : Expr}
theorem i_seq {e : Expr} {m : Sl → PH → M PV} (he : PE X e (tD X.K ca m)) : PI X tg e (tDI X.K ca fun s h => bd (m s h) fun x h => ob (itSeq1 x) fun l => some (l, h)) := by
  refine wkI (PI.or (pi_list he) (PI.or (pi_tup he) (pi_str he))) fun σ H R q => ?_
  obtain ⟨φ, s, h, xs, h', rs, rh, e, q⟩ := q
  obtain ⟨x, h1, e1, e⟩ := bd_eq e
  obtain ⟨l, e2, e⟩ := ob_eq e
  cases e
  cases x with
  | lst l =>
    cases e2
    exact .inl ⟨φ, s, h, _, _, rs, rh, e1, fun v φ' H' y rh' r => by
      obtain ⟨a, vs, ev, f, z, r⟩ := r
      exact ⟨a, ev, ⟨vs, .inl (.inl f.1)⟩, q _ φ' H' y rh' (ItOk.list z f r)⟩⟩
  | tup l =>
    cases e2
    exact .inr (.inl ⟨φ, s, h, _, _, rs, rh, e1, fun v φ' H' y rh' r => by
      obtain ⟨a, vs, ev, f, z, r⟩ := r
      exact ⟨a, ev, ⟨vs, SqT_of f⟩, q _ φ' H' y rh' (ItOk.tup z f r)⟩⟩)
  | str t =>
    cases e2
    exact .inr (.inr ⟨φ, s, h, _, _, rs, rh, e1, fun v φ' H' y rh' r => ⟨sx t, r.1, q _ φ' H' y rh' (ItOk.str r.2.1 r.2.2)⟩⟩)
  | _ => cases e2
theorem i_rng1 {a : Expr} {m : Sl → PH → M PV} {p pos : Pos} (hg : Gl X "range") (hm : X.mg "range" = none) (ha : PE X a (tD X.K ca m)) (hs : starEach [a] X.env = [(false, eval a X.env)]) :
    PI X tg (.Call (.Name "range" p) [a] [] pos) (tDI X.K ca fun s h => bd (m s h) fun x h => match x with
      | .int n => if -1000000 ≤ n ∧ n ≤ 1000000 then some (rngL 0 n.toNat, h) else none
      | _ => none) := by
  refine wkI (pi_range1 hg hm (pa_cons ha pa_nil hs) hs) fun σ H R q => ?_
  obtain ⟨φ, s, h, xs, h', rs, rh, e, q⟩ := q
  obtain ⟨x, h1, e1, e⟩ := bd_eq e
  cases x with
  | int n =>
    have e' : (if -1000000 ≤ n ∧ n ≤ 1000000 then some (rngL 0 n.toNat, h1) else none) = some (xs, h') := e
    split at e'
    · rename_i hn
      cases e'
      refine ⟨φ, s, h, _, _, rs, rh, e1, fun v φ' H' y rh' r => ⟨n, by rw [show v = .int n from r], by omega, by omega, q _ φ' H' y rh' (ItOk.rng ?_)⟩⟩
      rw [sizeLine_eq]
      omega
    · cases e'
  | _ => cases e
theorem i_rng2 {a b : Expr} {m k : Sl → PH → M PV} {p pos : Pos} (hg : Gl X "range") (hm : X.mg "range" = none) (ha : PE X a (tD X.K ca m)) (hb : PE X b (tD X.K ca k)) (hs : starEach [a, b] X.env = [(false, eval a X.env), (false, eval b X.env)]) (hs2 : starEach [b] X.env = [(false, eval b X.env)]) :
    PI X tg (.Call (.Name "range" p) [a, b] [] pos) (tDI X.K ca fun s h => bd (m s h) fun x h => bd (k s h) fun y h => match x, y with
      | .int i, .int j => if -1000000 ≤ i ∧ i ≤ 1000000 ∧ -1000000 ≤ j ∧ j ≤ 1000000 then some (rngL i (j - i).toNat, h) else none
      | _, _ => none) := by
  refine wkI (pi_range2 hg hm (pa_cons ha (pa_cons hb pa_nil hs2) (by rw [hs, hs2])) hs hs2) fun σ H R q => ?_
  obtain ⟨φ, s, h, xs, h', rs, rh, e, q⟩ := q
  obtain ⟨x, h1, e1, e⟩ := bd_eq e
  obtain ⟨y, h2, e2, e⟩ := bd_eq e
  cases x with
  | int i => cases y with
    | int j =>
      have e' : (if -1000000 ≤ i ∧ i ≤ 1000000 ∧ -1000000 ≤ j ∧ j ≤ 1000000 then some (rngL i (j - i).toNat, h2) else none) = some (xs, h') := e
      split at e'
      · rename_i hn
        cases e'
        refine ⟨φ, s, h, _, _, rs, rh, e1, fun v φ' H' y rh' r => ⟨φ', s, h1, _, _, rs.ext y, rh', e2, fun v2 φ2 H2 y2 rh2 r2 => ⟨i, j, by rw [show v = .int i from r, show v2 = .int j from r2], ⟨by omega, by omega, by omega, by omega⟩, q _ φ2 H2 (y.trans y2) rh2 (ItOk.rng ?_)⟩⟩⟩
        rw [sizeLine_eq]
        omega
      · cases e'
    | _ => cases e
  | _ => cases e
end

section
variable (K : PySem.W.Frag) (ca : CA)
/-- what is wanted behind a statement -/
def PstO (φ : Pl) (H : Hp) (o : Out) (D : Ends) : Prop := match o with
  | .nx s h => ∀ σ' φ' H', Ext φ H φ' H' → RH K ca φ' h H' → RS K ca φ' H' s σ' → D.nx σ' H'
  | .rt x h => ∀ v φ' H', Ext φ H φ' H' → RH K ca φ' h H' → RV K ca φ' H' x v → D.rt v H'
  | .bk s h => ∀ σ' φ' H', Ext φ H φ' H' → RH K ca φ' h H' → RS K ca φ' H' s σ' → D.bk σ' H'
  | .ct s h => ∀ σ' φ' H', Ext φ H φ' H' → RH K ca φ' h H' → RS K ca φ' H' s σ' → D.ct σ' H'
def tDS (m : Sl → PH → Option Out) : TS := fun D σ H => ∃ φ s h o, RS K ca φ H s σ ∧ RH K ca φ h H ∧ m s h = some o ∧ PstO K ca φ H o D
end
section
variable {K : PySem.W.Frag} {ca : CA} {φ φ' : Pl} {H H' : Hp}
theorem PstO.ext {o : Out} {D : Ends} (y : Ext φ H φ' H') (q : PstO K ca φ H o D) : PstO K ca φ' H' o D := by
  cases o with
  | nx s h => exact fun σ' φ2 H2 z rh r => q σ' φ2 H2 (y.trans z) rh r
  | rt s h => exact fun σ' φ2 H2 z rh r => q σ' φ2 H2 (y.trans z) rh r
  | bk s h => exact fun σ' φ2 H2 z rh r => q σ' φ2 H2 (y.trans z) rh r
  | ct s h => exact fun σ' φ2 H2 z rh r => q σ' φ2 H2 (y.trans z) rh r
end
section
variable {X : Cx} {ca : CA} {pos : Pos}
theorem drop_some {α : Type} {l : List α} {i : Nat} (h : i < l.length) : l.drop i = l[i] :: l.drop (i + 1) := by
  rw [List.drop_eq_getElem_cons h]
theorem d_for {tg iter : Expr} {tgd : Tg} {body : List Stmt} {mi : Sl → PH → M (List PV)} {mb : Sl → PH → Option Out} (hp : PassesOwn (model X.prog X.w) X.A X.env X.xe) (hc : X.calm = true) (hi : PI X tg iter (tDI X.K ca mi)) (hg : PG X tg (gOf X.K tgd)) (hb : PSs X body (tDS X.K ca mb))
    (hs : ∀ x, foldedSetIterable iter X.env x = pure x) : PS X (.For tg iter body [] pos) (tDS X.K ca fun s h => bd (mi s h) fun xs h => forL tgd mb xs s h) := by
  refine wkS (ps_for hp hc hi hg hb hs) fun D σ H q => ?_
  obtain ⟨φ, s, h, o, rs, rh, e, q⟩ := q
  obtain ⟨xs, h1, e1, e⟩ := bd_eq e
  refine ⟨φ, s, h, xs, h1, rs, rh, e1, fun J φ1 H1 y1 rh1 it => ?_⟩
  have q1 := q.ext y1
  refine ⟨fun i m σ H => m = xs.length - i ∧ i ≤ xs.length ∧ ∃ φ' s h, Ext φ1 H1 φ' H ∧ RS X.K ca φ' H s σ ∧ RH X.K ca φ' h H ∧ forL tgd mb (xs.drop i) s h = some o, ⟨xs.length, by simp, Nat.zero_le _, φ1, s, h1, Ext.refl, rs.ext y1, rh1, by simpa using e⟩, ?_⟩
  rintro i m σ' H' ⟨rfl, hi, φ', s', h', y', rs', rh', e'⟩
  by_cases hlt : i < xs.length
  · rw [drop_some hlt] at e'
    obtain ⟨go, yl⟩ := it.go i xs[i] φ' H' (List.getElem?_eq_getElem hlt) y'.toExt0
    refine .inr ⟨go, fun σ2 H2 => ∃ φ2 s2 h2, Ext φ1 H1 φ2 H2 ∧ RS X.K ca φ2 H2 s2 σ2 ∧ RH X.K ca φ2 h2 H2 ∧ forL tgd mb (xs.drop (i + 1)) s2 h2 = some o, fun σ2 H2 w => ⟨xs.length - (i + 1), by omega, rfl, hlt, w⟩, fun v H2 yv => ?_⟩
    obtain ⟨y2, rh2, rv⟩ := yl v H2 h' rh' yv
    have rs2 : RS X.K ca φ' H2 s' σ' := rs'.ext y2.toExt0
    unfold forL at e'
    cases ea : asg tgd xs[i] s' with
    | none => rw [ea] at e'; cases e'
    | some s1 =>
      rw [ea] at e'
      refine asg_ok rs2.b rv ea fun us rs3 => ?_
      have e' : (match mb s1 h' with
        | some (.nx s2 h2) => forL tgd mb (xs.drop (i + 1)) s2 h2
        | some (.ct s2 h2) => forL tgd mb (xs.drop (i + 1)) s2 h2
        | some (.bk s2 h2) => some (.nx s2 h2)
        | some (.rt v h2) => some (.rt v h2)
        | none => none) = some o := e'
      cases em : mb s1 h' with
      | none => rw [em] at e'; cases e'
      | some o' =>
        rw [em] at e'
        refine ⟨φ', s1, h', o', rs3, rh2, em, ?_⟩
        have y3 := y'.trans y2
        cases o' with
        | nx s2 h2 => exact fun σ3 φ3 H3 z rh3 rs3 => ⟨φ3, s2, h2, y3.trans z, rs3, rh3, e'⟩
        | ct s2 h2 => exact fun σ3 φ3 H3 z rh3 rs3 => ⟨φ3, s2, h2, y3.trans z, rs3, rh3, e'⟩
        | bk s2 h2 =>
          cases e'
          exact fun σ3 φ3 H3 z rh3 rs3 => q1 σ3 φ3 H3 (y3.trans z) rh3 rs3
        | rt v h2 =>
          cases e'
          exact fun v3 φ3 H3 z rh3 r3 => q1 v3 φ3 H3 (y3.trans z) rh3 r3
  · have hi' : i = xs.length := by omega
    subst hi'
    rw [List.drop_length] at e'
    cases e'
    exact .inl ⟨it.stop _ φ' H' (Nat.le_refl _) y'.toExt0, q1 σ' φ' H' y' rh' rs'⟩
theorem d_while {c : Expr} {body : List Stmt} {mc : Sl → PH → M Bool} {mb : Sl → PH → Option Out} {wf : Nat} (hp : PassesOwn (model X.prog X.w) X.A X.env X.xe) (hc : PT X c (tDT X.K ca mc)) (hb : PSs X body (tDS X.K ca mb)) :
    PS X (.While c body [] pos) (tDS X.K ca fun s h => whL mc mb wf s h) := by
  refine wkS (ps_while hp hc hb) fun D σ H q => ?_
  obtain ⟨φ, s, h, o, rs, rh, e, q⟩ := q
  refine ⟨fun m σ' H' => ∃ φ' s' h', Ext φ H φ' H' ∧ RS X.K ca φ' H' s' σ' ∧ RH X.K ca φ' h' H' ∧ whL mc mb m s' h' = some o, ⟨wf, φ, s, h, Ext.refl, rs, rh, e⟩, ?_⟩
  rintro m σ' H' ⟨φ', s', h', y', rs', rh', e'⟩
  cases m with
  | zero => cases e'
  | succ m =>
    have e' : (match mc s' h' with
      | none => none
      | some (false, h1) => some (.nx s' h1)
      | some (true, h1) => match mb s' h1 with
        | some (.nx s2 h2) => whL mc mb m s2 h2
        | some (.ct s2 h2) => whL mc mb m s2 h2
        | some (.bk s2 h2) => some (.nx s2 h2)
        | some (.rt v h2) => some (.rt v h2)
        | none => none) = some o := e'
    cases ec : mc s' h' with
    | none => rw [ec] at e'; cases e'
    | some p =>
      obtain ⟨b, h1⟩ := p
      rw [ec] at e'
      refine ⟨φ', s', h', b, h1, rs', rh', ec, fun φ2 H2 y2 rh2 => ?_⟩
      have y3 := y'.trans y2
      cases b with
      | false =>
        cases e'
        show D.nx σ' H2
        exact q σ' φ2 H2 y3 rh2 (rs'.ext y2.toExt0)
      | true =>
        have e' : (match mb s' h1 with
          | some (.nx s2 h2) => whL mc mb m s2 h2
          | some (.ct s2 h2) => whL mc mb m s2 h2
          | some (.bk s2 h2) => some (.nx s2 h2)
          | some (.rt v h2) => some (.rt v h2)
          | none => none) = some o := e'
        show ∃ N : St → Hp → Prop, _
        refine ⟨fun σ4 H4 => ∃ φ4 s4 h4, Ext φ H φ4 H4 ∧ RS X.K ca φ4 H4 s4 σ4 ∧ RH X.K ca φ4 h4 H4 ∧ whL mc mb m s4 h4 = some o, fun σ4 H4 w => ⟨m, Nat.lt_succ_self _, w⟩, ?_⟩
        cases em : mb s' h1 with
        | none => rw [em] at e'; cases e'
        | some o' =>
          rw [em] at e'
          refine ⟨φ2, s', h1, o', rs'.ext y2.toExt0, rh2, em, ?_⟩
          cases o' with
          | nx s2 h2 => exact fun σ3 φ3 H3 z rh3 rs3 => ⟨φ3, s2, h2, y3.trans z, rs3, rh3, e'⟩
          | ct s2 h2 => exact fun σ3 φ3 H3 z rh3 rs3 => ⟨φ3, s2, h2, y3.trans z, rs3, rh3, e'⟩
          | bk s2 h2 =>
            cases e'
            exact fun σ3 φ3 H3 z rh3 rs3 => q σ3 φ3 H3 (y3.trans z) rh3 rs3
          | rt v h2 =>
            cases e'
            exact fun v3 φ3 H3 z rh3 r3 => q v3 φ3 H3 (y3.trans z) rh3 r3
end
end Lt

set_option maxRecDepth 100000
namespace Lt
open PySem PySem.Spec L2
section
variable {K : PySem.W.Frag} {ca : CA} {φ φ' : Pl} {h : PH} {H H' : Hp} {D : Addr}
/-- what was new is written -/
theorem Ext.put_new {o : HO} (x : Ext φ H φ' H') (hD : H D = none) (hm : D ∈ φ'.x) : Ext φ H φ' (upd H' D o) :=
  ⟨x.toExt0.trans (Ext0.put hm), fun d hd => ⟨(x.keepx d hd).1, fun u e => by rw [upd_ne (ne_of_none e hD)]; exact (x.keepx d hd).2 u e⟩⟩
def Pl.not (φ : Pl) (D : Addr) : Pl := ⟨φ.l, φ.x.filter (· ≠ D)⟩
theorem not_sub {D : Addr} : ∀ d ∈ (φ.not D).x, d ∈ φ.x := fun d hd => (List.mem_filter.mp hd).1
theorem Ext.unhide (x : Ext φ H φ' H') (hD : H D = none) (rh : RH K ca φ h H) : Ext φ H (φ'.not D) H' :=
  ⟨x.toExt0.trans (Ext0.show not_sub), fun d hd => ⟨List.mem_filter.mpr ⟨(x.keepx d hd).1, by
    obtain ⟨u, e⟩ := rh.prv d hd
    simpa using ne_of_none e hD⟩, (x.keepx d hd).2⟩⟩
theorem RH.unhide (r : RH K ca φ h H) : RH K ca (φ.not D) h H := r.show not_sub
theorem Off.unhide (r : RH K ca φ h H) (hm : D ∈ φ.x) : Off (φ.not D) D := ⟨fun p hp => ⟨fun z => (r.hid p hp).1 (z ▸ hm), fun z => (r.hid p hp).2 (z ▸ hm)⟩, fun z => by
  have := (List.mem_filter.mp z).2
  simp at this⟩
/-- what was kept apart is now a place -/
theorem RH.adopt {o : PO} (r : RH K ca φ h H) (hm : D ∈ φ.x) (new : RO K ca ((φ.not D).and (D, D)) H (D, D) o) : Ext0 φ H ((φ.not D).and (D, D)) H ∧ RH K ca ((φ.not D).and (D, D)) (h ++ [o]) H := by
  have off : ∀ p ∈ φ.l, p.1 ≠ D ∧ p.2 ≠ D := fun p hp => ⟨fun z => (r.hid p hp).1 (z ▸ hm), fun z => (r.hid p hp).2 (z ▸ hm)⟩
  have x : Ext0 φ H ((φ.not D).and (D, D)) H := ⟨⟨[(D, D)], rfl⟩, fun a u e f => ⟨e, fun q hq => by
    rcases List.mem_append.mp hq with hq | hq
    · exact f.1 q hq
    · rw [List.mem_singleton] at hq
      subst hq
      exact ⟨fun z => f.2 (z ▸ hm), fun z => f.2 (z ▸ hm)⟩, fun z => f.2 (not_sub _ z)⟩⟩
  refine ⟨x, ?_⟩
  have hl : ((φ.not D).and (D, D)).l = φ.l ++ [(D, D)] := rfl
  refine ⟨by rw [hl, List.length_append, List.length_append, r.len]; rfl, fun n q e => ?_, fun n m q q' hne e e' => ?_, fun q hq => ?_, fun d hd => r.prv d (not_sub d hd)⟩
  · by_cases hn : n < h.length
    · rw [List.getElem?_append_left hn] at e
      obtain ⟨pl, e1, ro⟩ := r.at_ n q e
      refine ⟨pl, ?_, ro.ext x rfl rfl⟩
      rw [hl, List.getElem?_append_left (by rw [r.len]; exact hn)]
      exact e1
    · rw [List.getElem?_append_right (by omega)] at e
      have hz : n - h.length = 0 := by
        have := (List.getElem?_eq_some_iff.mp e).1
        simp only [List.length_singleton] at this
        omega
      rw [hz] at e
      cases e
      refine ⟨(D, D), ?_, new⟩
      rw [hl, List.getElem?_append_right (by rw [r.len]; omega), r.len, hz]
      rfl
  · have hp : ∀ {i : Nat} {z : Addr × Addr}, ((φ.not D).and (D, D)).l[i]? = some z → φ.l[i]? = some z ∨ (i = φ.l.length ∧ z = (D, D)) := fun {i z} e => by
      rw [hl] at e
      by_cases hi : i < φ.l.length
      · rw [List.getElem?_append_left hi] at e
        exact .inl e
      · rw [List.getElem?_append_right (by omega)] at e
        have hz : i - φ.l.length = 0 := by
          have := (List.getElem?_eq_some_iff.mp e).1
          simp only [List.length_singleton] at this
          omega
        rw [hz] at e
        cases e
        exact .inr ⟨by omega, rfl⟩
    rcases hp e with x | ⟨en, x⟩
    · rcases hp e' with y | ⟨em, y⟩
      · exact r.sep n m q q' hne x y
      · obtain ⟨z1, z2⟩ := off q (List.mem_of_getElem? x)
        rw [y]
        exact ⟨z1, z1, z2, z2⟩
    · rcases hp e' with y | ⟨em, y⟩
      · obtain ⟨z1, z2⟩ := off q' (List.mem_of_getElem? y)
        rw [x]
        exact ⟨z1.symm, z2.symm, z1.symm, z2.symm⟩
      · exact absurd (en.trans em.symm) hne
  · rw [hl] at hq
    have nm : ∀ p, p ∈ φ.l → p.1 ∉ (φ.not D).x ∧ p.2 ∉ (φ.not D).x := fun p hp => ⟨fun z => (r.hid p hp).1 (not_sub _ z), fun z => (r.hid p hp).2 (not_sub _ z)⟩
    rcases List.mem_append.mp hq with hq | hq
    · exact nm q hq
    · rw [List.mem_singleton] at hq
      subst hq
      have hz : D ∉ (φ.not D).x := fun z => by
        have := (List.mem_filter.mp z).2
        simp at this
      exact ⟨hz, hz⟩
/-- a list that was kept apart: let loose, or at a place -/
theorem apart_L {al : Bool} {l : List PV} {x : PV} {h1 h2 : PH} {vs : List V} {Q : VK} {φ1 : Pl} {H1 : Hp} (hD : H1 D = none) (rh1 : RH K ca φ1 h H1) (y : Ext φ1 H1 φ H) (hm : D ∈ φ.x) (rh : RH K ca φ h1 H) (e1 : H D = some (.lst vs)) (r : RVs K ca φ H l vs) (z : l.length ≤ sizeLine)
    (e : newL al l h1 = some (x, h2)) (q : Pst K ca φ1 H1 x h2 Q) : Q (.ref D) H := by
  cases al with
  | false =>
    cases e
    exact q _ (φ.not D) H (y.unhide hD rh1) rh.unhide ⟨D, vs, rfl, ⟨e1, Off.unhide rh hm⟩, z, RVs.ext (Ext0.show not_sub) _ _ r⟩
  | true =>
    cases e
    have x0 : Ext0 φ H ((φ.not D).and (D, D)) H := ⟨⟨[(D, D)], rfl⟩, fun a u e f => ⟨e, fun q hq => by
      rcases List.mem_append.mp hq with hq | hq
      · exact f.1 q hq
      · rw [List.mem_singleton] at hq
        subst hq
        exact ⟨fun z => f.2 (z ▸ hm), fun z => f.2 (z ▸ hm)⟩, fun z => f.2 (not_sub _ z)⟩⟩
    obtain ⟨_, ra⟩ := rh.adopt (o := .lst l) hm ⟨⟨rfl, z⟩, vs, e1, RVs.ext x0 _ _ r⟩
    have y2 := y.unhide hD rh1
    refine q _ ((φ.not D).and (D, D)) H ⟨⟨?_, fun a u e f => ?_⟩, y2.keepx⟩ ra ⟨(D, D), ?_, rfl⟩
    · obtain ⟨r, er⟩ := y.pre
      exact ⟨r ++ [(D, D)], by show φ.l ++ [(D, D)] = _; rw [er, List.append_assoc]⟩
    · obtain ⟨k1, k2⟩ := y.keep a u e f
      exact ⟨k1, (x0.keep a u k1 k2).2⟩
    · show (φ.l ++ [(D, D)])[h1.length]? = some (D, D)
      rw [List.getElem?_append_right (by rw [rh.len]; exact Nat.le_refl _), rh.len, Nat.sub_self]
      rfl
/-- a dict that was kept apart -/
theorem apart_D {al : Bool} {ks : List DK} {l : List PV} {x : PV} {h1 h2 : PH} {vs : List V} {Q : VK} {φ1 : Pl} {H1 : Hp} (hD : H1 D = none) (rh1 : RH K ca φ1 h H1) (y : Ext φ1 H1 φ H) (hm : D ∈ φ.x) (rh : RH K ca φ h1 H) (e1 : H D = some (.dK ((ks.map dk).zip vs))) (r : RVs K ca φ H l vs) (z : ks.length = l.length)
    (e : newD al ks l h1 = some (x, h2)) (q : Pst K ca φ1 H1 x h2 Q) : Q (.ref D) H := by
  cases al with
  | false =>
    cases e
    exact q _ (φ.not D) H (y.unhide hD rh1) rh.unhide ⟨D, vs, rfl, ⟨.inl e1, Off.unhide rh hm⟩, z, RVs.ext (Ext0.show not_sub) _ _ r⟩
  | true =>
    cases e
    have x0 : Ext0 φ H ((φ.not D).and (D, D)) H := ⟨⟨[(D, D)], rfl⟩, fun a u e f => ⟨e, fun q hq => by
      rcases List.mem_append.mp hq with hq | hq
      · exact f.1 q hq
      · rw [List.mem_singleton] at hq
        subst hq
        exact ⟨fun z => f.2 (z ▸ hm), fun z => f.2 (z ▸ hm)⟩, fun z => f.2 (not_sub _ z)⟩⟩
    obtain ⟨_, ra⟩ := rh.adopt (o := .dct ks l) hm ⟨rfl, vs, e1, z, RVs.ext x0 _ _ r⟩
    have y2 := y.unhide hD rh1
    refine q _ ((φ.not D).and (D, D)) H ⟨⟨?_, fun a u e f => ?_⟩, y2.keepx⟩ ra ⟨(D, D), ?_, rfl⟩
    · obtain ⟨r, er⟩ := y.pre
      exact ⟨r ++ [(D, D)], by show φ.l ++ [(D, D)] = _; rw [er, List.append_assoc]⟩
    · obtain ⟨k1, k2⟩ := y.keep a u e f
      exact ⟨k1, (x0.keep a u k1 k2).2⟩
    · show (φ.l ++ [(D, D)])[h1.length]? = some (D, D)
      rw [List.getElem?_append_right (by rw [rh.len]; exact Nat.le_refl _), rh.len, Nat.sub_self]
      rfl
end

section
variable {K : PySem.W.Frag} {ca : CA}
theorem lc_turns {J : L2.It} {xs ys : List PV} {φ1 : Pl} {h0 h2 : PH} {H1 : Hp} {s : Sl} {σ : St} {tgd : Tg} {vs : List Nat} {mt : Sl → PH → M Bool} {me : Sl → PH → M PV} {Q : V → Hp → Prop} {D : Addr}
    (it : ItOk K ca J xs φ1 H1) (rs : RS K ca φ1 H1 s σ) (rh : RH K ca φ1 h0 H1) (e : lcL tgd mt me s xs h0 = some (ys, h2)) (hv : ∀ i, i ∈ vs ↔ i ∈ tgd.ids) (hD : H1 D = none)
    (q : ∀ φ' H' acc, Ext φ1 H1 φ' H' → D ∈ φ'.x → RH K ca φ' h2 H' → H' D = some (.lst acc) → RVs K ca φ' H' ys acc → ys.length ≤ sizeLine → Q (.ref D) H') :
    ∃ W : Nat → Nat → Hp → Prop, (∃ m, W 0 m (upd H1 D (.lst []))) ∧ ∀ i m H, W i m H →
      (J.stop i H ∧ Q (.ref D) H) ∨ (J.go i H ∧ ∃ Nx : Hp → Prop, (∀ H', Nx H' → ∃ m', m' < m ∧ W (i + 1) m' H') ∧ ∀ x H', J.yld i H x H' → gOf K tgd x (wipe σ vs) H' fun σ2 H2 => wipe σ2 vs = wipe σ vs ∧ tDT K ca mt σ2 H2 fun b H3 =>
        if b = true then tD K ca me σ2 H3 fun y H4 => ∃ acc, H4 D = some (.lst acc) ∧ acc.length < sizeLine ∧ Nx (upd H4 D (.lst (acc ++ [y]))) else Nx H3) := by
  let P : Nat → Hp → Prop := fun i H => i ≤ xs.length ∧ ∃ φ' h acc ys0 ys1, Ext φ1 H1 φ' H ∧ D ∈ φ'.x ∧ RH K ca φ' h H ∧ H D = some (.lst acc) ∧ RVs K ca φ' H ys0 acc ∧ ys0.length ≤ i ∧ lcL tgd mt me s (xs.drop i) h = some (ys1, h2) ∧ ys = ys0 ++ ys1
  refine ⟨fun i m H => m = xs.length - i ∧ P i H, ⟨xs.length, by simp, Nat.zero_le _, ⟨φ1.l, D :: φ1.x⟩, h0, [], [], ys, Ext.hide hD, List.mem_cons_self, rh.hide hD, upd_same, rfl, Nat.le_refl _, by simpa using e, rfl⟩, ?_⟩
  rintro i m H ⟨rfl, hi, φ', h', acc, ys0, ys1, y', hm, rh', eD, rv0, hl0, e', ey⟩
  by_cases hlt : i < xs.length
  · rw [drop_some hlt] at e'
    obtain ⟨go, yl⟩ := it.go i xs[i] φ' H (List.getElem?_eq_getElem hlt) y'.toExt0
    refine .inr ⟨go, P (i + 1), fun H2 w => ⟨xs.length - (i + 1), by omega, rfl, w⟩, fun v H2 yv => ?_⟩
    obtain ⟨y2, rh2, rv⟩ := yl v H2 h' rh' yv
    unfold lcL at e'
    cases ea : asg tgd xs[i] s with
    | none => rw [ea] at e'; cases e'
    | some s1 =>
      rw [ea] at e'
      have rs2 : RS K ca φ' H2 s σ := (rs.ext y'.toExt0).ext y2.toExt0
      refine asg_ok (rs2.wiped fun i hi => (hv i).mp hi) rv ea fun us rs3 => ⟨wipe_setA fun i hi => (hv i).mpr hi, ?_⟩
      have e' : (match mt s1 h' with
        | none => none
        | some (false, h1) => lcL tgd mt me s (xs.drop (i + 1)) h1
        | some (true, h1) => match me s1 h1 with
          | none => none
          | some (y, h2) => match lcL tgd mt me s (xs.drop (i + 1)) h2 with
            | none => none
            | some (ys, h3) => some (y :: ys, h3)) = some (ys1, h2) := e'
      cases et : mt s1 h' with
      | none => rw [et] at e'; cases e'
      | some p =>
        obtain ⟨b, h1⟩ := p
        rw [et] at e'
        refine ⟨φ', s1, h', b, h1, rs3, rh2, et, fun φ3 H3 y3 rh3 => ?_⟩
        have z3 := (y'.trans y2).trans y3
        have k3 : H3 D = some (.lst acc) := (y3.keepx D (y2.keepx D hm).1).2 _ ((y2.keepx D hm).2 _ eD)
        have m3 : D ∈ φ3.x := (y3.keepx D (y2.keepx D hm).1).1
        have rv3 : RVs K ca φ3 H3 ys0 acc := RVs.ext y3.toExt0 _ _ (RVs.ext y2.toExt0 _ _ rv0)
        cases b with
        | false =>
          show P (i + 1) H3
          exact ⟨hlt, φ3, h1, acc, ys0, ys1, z3, m3, rh3, k3, rv3, by omega, e', ey⟩
        | true =>
          have e' : (match me s1 h1 with
            | none => none
            | some (y, h2) => match lcL tgd mt me s (xs.drop (i + 1)) h2 with
              | none => none
              | some (ys, h3) => some (y :: ys, h3)) = some (ys1, h2) := e'
          cases em : me s1 h1 with
          | none => rw [em] at e'; cases e'
          | some p =>
            obtain ⟨d, h3⟩ := p
            rw [em] at e'
            have e' : (match lcL tgd mt me s (xs.drop (i + 1)) h3 with
              | none => none
              | some (ys, h3) => some (d :: ys, h3)) = some (ys1, h2) := e'
            cases er : lcL tgd mt me s (xs.drop (i + 1)) h3 with
            | none => rw [er] at e'; cases e'
            | some p =>
              obtain ⟨ys2, h4⟩ := p
              rw [er] at e'
              cases e'
              show tD K ca me (setA tgd.ids us (wipe σ vs)) H3 _
              refine ⟨φ3, s1, h1, d, h3, rs3.ext y3.toExt0, rh3, em, fun w φ4 H4 y4 rh4 r4 => ?_⟩
              have k4 : H4 D = some (.lst acc) := (y4.keepx D m3).2 _ k3
              have m4 : D ∈ φ4.x := (y4.keepx D m3).1
              have la : acc.length ≤ i := by rw [← rv0.length]; exact hl0
              have sz := it.sz
              refine ⟨acc, k4, by omega, hlt, φ4, h3, acc ++ [w], ys0 ++ [d], ys2, (z3.trans y4).put_new hD m4, m4, rh4.put m4, upd_same, ?_, by rw [List.length_append]; simp; omega, er, by rw [ey]; simp⟩
              exact RVs.ext (Ext0.put m4) _ _ ((RVs.ext y4.toExt0 _ _ rv3).append (RVs.one r4))
  · have hi' : i = xs.length := by omega
    subst hi'
    rw [List.drop_length] at e'
    cases e'
    rw [List.append_nil] at ey
    subst ey
    exact .inl ⟨it.stop _ φ' H (Nat.le_refl _) y'.toExt0, q φ' H acc y' hm rh' eD rv0 (by have := it.sz; omega)⟩
end
section
variable {X : Cx} {ca : CA}
theorem lc_data {tgd : Tg} {vs : List Nat} {al : Bool} {mi : Sl → PH → M (List PV)} {mt : Sl → PH → M Bool} {me : Sl → PH → M PV} (hv : ∀ i, i ∈ vs ↔ i ∈ tgd.ids) (σ : St) (H : Hp) (Q : VK)
    (q : tD X.K ca (fun s h => bd (mi s h) fun xs h => bd (lcL tgd mt me s xs h) fun ys h => newL al ys h) σ H Q) : tLc (tDI X.K ca mi) (gOf X.K tgd) (tDT X.K ca mt) (tD X.K ca me) vs σ H Q := by
  obtain ⟨φ, s, h, x, h', rs, rh, e, q⟩ := q
  obtain ⟨xs, h1, e1, e⟩ := bd_eq e
  obtain ⟨ys, h2, e2, e⟩ := bd_eq e
  refine ⟨φ, s, h, xs, h1, rs, rh, e1, fun J φ1 H1 y1 rh1 it => fun D hD => ?_⟩
  refine lc_turns it (rs.ext y1.toExt0) rh1 e2 hv hD fun φ' H' acc y' hm rh' eD rv z => ?_
  exact apart_L hD rh1 y' hm rh' eD rv z e fun v φ3 H3 y3 rh3 r3 => q v φ3 H3 (y1.trans y3) rh3 r3
end
end Lt

set_option maxRecDepth 100000
namespace Lt
open PySem PySem.Spec L2
section
variable {K : PySem.W.Frag} {ca : CA} {φ φ' : Pl} {H H' : Hp}
theorem hasK_any {ks : List DK} {l : List PV} {vs : List V} {k : DK} (z : ks.length = l.length) (r : RVs K ca φ H l vs) : (((ks.map dk).zip vs).any fun kv => decide (kv.1 = dk k)) = hasK ks k := by
  obtain ⟨h1, h2, h3⟩ := lkp_valV (k := k) z r
  rw [valV_any, h3]
  cases e : lkp ks l k with
  | none => rw [h2 e]; rfl
  | some x =>
    obtain ⟨v, e1, _⟩ := h1 x e
    rw [e1]
    rfl
theorem put_some {v : V} {x : PV} (rx : RV K ca φ H x v) {k : DK} : ∀ {ks : List DK} {l : List PV} {vs : List V}, ks.length = l.length → RVs K ca φ H l vs → ∃ us,
    ((ks.map dk).zip vs).map (fun kv => if kv.1 = dk k then (kv.1, v) else kv) = (ks.map dk).zip us ∧ RVs K ca φ H ((ks.zip l).map fun p => if p.1 = k then x else p.2) us
  | [], [], vs, _, r => by
    have e : vs = [] := r
    subst e
    exact ⟨[], rfl, rfl⟩
  | j :: ks, y :: l, vs, z, r => by
    obtain ⟨w, ws, ev, r1, r2⟩ := r
    subst ev
    obtain ⟨us, e1, r3⟩ := put_some rx (k := k) (show ks.length = l.length by simpa using z) r2
    by_cases e : j = k
    · subst e
      refine ⟨v :: us, ?_, v, us, rfl, ?_, r3⟩
      · rw [List.map_cons, List.zip_cons_cons, List.map_cons, e1, if_pos rfl, List.zip_cons_cons]
      · show RV K ca φ H (if j = j then x else y) v
        rw [if_pos rfl]
        exact rx
    · have e' : ¬ dk j = dk k := fun q => e (dk_inj.mp q)
      refine ⟨w :: us, ?_, w, us, rfl, ?_, r3⟩
      · rw [List.map_cons, List.zip_cons_cons, List.map_cons, e1, if_neg e', List.zip_cons_cons]
      · show RV K ca φ H (if j = k then x else y) w
        rw [if_neg e]
        exact r1
  | [], _ :: _, _, z, _ => by cases z
  | _ :: _, [], _, z, _ => by cases z
/-- d[k] = v, both ways -/
theorem put_ok {ks : List DK} {l : List PV} {vs : List V} {k : DK} {x : PV} {v : V} (z : ks.length = l.length) (r : RVs K ca φ H l vs) (rx : RV K ca φ H x v) :
    ∃ us, putK ((ks.map dk).zip vs) (dk k) v = ((putV ks l k x).1.map dk).zip us ∧ (putV ks l k x).1.length = (putV ks l k x).2.length ∧ RVs K ca φ H (putV ks l k x).2 us ∧ (putV ks l k x).1.length ≤ ks.length + 1 := by
  have hl := r.length
  unfold putK putV
  rw [hasK_any z r]
  by_cases hk : hasK ks k = true
  · rw [if_pos hk, if_pos hk]
    obtain ⟨us, e1, r1⟩ := put_some rx (k := k) z r
    exact ⟨us, e1, by simp [z], r1, by simp⟩
  · rw [if_neg hk, if_neg hk]
    refine ⟨vs ++ [v], ?_, by simp [z], r.append (RVs.one rx), by simp⟩
    rw [List.map_append, List.map_singleton, List.zip_append (by rw [List.length_map, z, hl])]
    rfl
/-- {k: v for t in it} -/
theorem dc_turns {J : L2.It} {xs : List PV} {kd : List DK} {ld : List PV} {φ1 : Pl} {h0 h2 : PH} {H1 : Hp} {s : Sl} {σ : St} {tgd : Tg} {vs : List Nat} {mk mv : Sl → PH → M PV} {Q : V → Hp → Prop} {D : Addr}
    (it : ItOk K ca J xs φ1 H1) (rs : RS K ca φ1 H1 s σ) (rh : RH K ca φ1 h0 H1) (e : dcL tgd mk mv s xs [] [] h0 = some (kd, ld, h2)) (hv : ∀ i, i ∈ vs ↔ i ∈ tgd.ids) (hD : H1 D = none)
    (q : ∀ φ' H' acc, Ext φ1 H1 φ' H' → D ∈ φ'.x → RH K ca φ' h2 H' → H' D = some (.dK ((kd.map dk).zip acc)) → RVs K ca φ' H' ld acc → kd.length = ld.length → Q (.ref D) H') :
    ∃ W : Nat → Nat → Hp → Prop, (∃ m, W 0 m (upd H1 D (.dK []))) ∧ ∀ i m H, W i m H →
      (J.stop i H ∧ Q (.ref D) H) ∨ (J.go i H ∧ ∃ Nx : Hp → Prop, (∀ H', Nx H' → ∃ m', m' < m ∧ W (i + 1) m' H') ∧ ∀ x H', J.yld i H x H' → gOf K tgd x (wipe σ vs) H' fun σ2 H2 => wipe σ2 vs = wipe σ vs ∧ tYes σ2 H2 fun b H3 =>
        if b = true then tD K ca mk σ2 H3 fun y H4 => tD K ca mv σ2 H4 fun z H5 => ∃ kvs k, y = kV k ∧ H5 D = some (.dK kvs) ∧ kvs.length < sizeLine ∧ Nx (upd H5 D (.dK (putK kvs k z))) else Nx H3) := by
  let P : Nat → Hp → Prop := fun i H => i ≤ xs.length ∧ ∃ φ' h acc ks l, Ext φ1 H1 φ' H ∧ D ∈ φ'.x ∧ RH K ca φ' h H ∧ H D = some (.dK ((ks.map dk).zip acc)) ∧ ks.length = l.length ∧ RVs K ca φ' H l acc ∧ ks.length ≤ i ∧ dcL tgd mk mv s (xs.drop i) ks l h = some (kd, ld, h2)
  refine ⟨fun i m H => m = xs.length - i ∧ P i H, ⟨xs.length, by simp, Nat.zero_le _, ⟨φ1.l, D :: φ1.x⟩, h0, [], [], [], Ext.hide hD, List.mem_cons_self, rh.hide hD, upd_same, rfl, rfl, Nat.le_refl _, by simpa using e⟩, ?_⟩
  rintro i m H ⟨rfl, hi, φ', h', acc, ks, l, y', hm, rh', eD, hz, rv0, hl0, e'⟩
  by_cases hlt : i < xs.length
  · rw [drop_some hlt] at e'
    obtain ⟨go, yl⟩ := it.go i xs[i] φ' H (List.getElem?_eq_getElem hlt) y'.toExt0
    refine .inr ⟨go, P (i + 1), fun H2 w => ⟨xs.length - (i + 1), by omega, rfl, w⟩, fun v H2 yv => ?_⟩
    obtain ⟨y2, rh2, rv⟩ := yl v H2 h' rh' yv
    unfold dcL at e'
    cases ea : asg tgd xs[i] s with
    | none => rw [ea] at e'; cases e'
    | some s1 =>
      rw [ea] at e'
      have rs2 : RS K ca φ' H2 s σ := (rs.ext y'.toExt0).ext y2.toExt0
      refine asg_ok (rs2.wiped fun i hi => (hv i).mp hi) rv ea fun us rs3 => ⟨wipe_setA fun i hi => (hv i).mpr hi, ?_⟩
      have e' : (match mk s1 h' with
        | none => none
        | some (k, h1) => match toDK k with
          | none => none
          | some k => match mv s1 h1 with
            | none => none
            | some (v, h2) => dcL tgd mk mv s (xs.drop (i + 1)) (putV ks l k v).1 (putV ks l k v).2 h2) = some (kd, ld, h2) := e'
      show tD K ca mk (setA tgd.ids us (wipe σ vs)) H2 _
      cases et : mk s1 h' with
      | none => rw [et] at e'; cases e'
      | some p =>
        obtain ⟨kx, h1⟩ := p
        rw [et] at e'
        have e' : (match toDK kx with
          | none => none
          | some k => match mv s1 h1 with
            | none => none
            | some (v, h2) => dcL tgd mk mv s (xs.drop (i + 1)) (putV ks l k v).1 (putV ks l k v).2 h2) = some (kd, ld, h2) := e'
        refine ⟨φ', s1, h', kx, h1, rs3, rh2, et, fun w φ3 H3 y3 rh3 r3 => ?_⟩
        cases ek : toDK kx with
        | none => rw [ek] at e'; cases e'
        | some k =>
          rw [ek] at e'
          have e' : (match mv s1 h1 with
            | none => none
            | some (v, h2) => dcL tgd mk mv s (xs.drop (i + 1)) (putV ks l k v).1 (putV ks l k v).2 h2) = some (kd, ld, h2) := e'
          cases em : mv s1 h1 with
          | none => rw [em] at e'; cases e'
          | some p =>
            obtain ⟨d, h3⟩ := p
            rw [em] at e'
            refine ⟨φ3, s1, h1, d, h3, rs3.ext y3.toExt0, rh3, em, fun u φ4 H4 y4 rh4 r4 => ?_⟩
            have z4 := ((y'.trans y2).trans y3).trans y4
            have w4 := (y2.trans y3).trans y4
            have k4 : H4 D = some (.dK ((ks.map dk).zip acc)) := (w4.keepx D hm).2 _ eD
            have m4 : D ∈ φ4.x := (w4.keepx D hm).1
            have sz := it.sz
            have rv4 : RVs K ca φ4 H4 l acc := RVs.ext w4.toExt0 _ _ rv0
            obtain ⟨us', e1, z1, r1, l1⟩ := put_ok (k := k) hz rv4 r4
            refine ⟨(ks.map dk).zip acc, dk k, toDK_kV r3 ek, k4, ?_, hlt, φ4, h3, us', (putV ks l k d).1, (putV ks l k d).2, z4.put_new hD m4, m4, rh4.put m4, ?_, z1, RVs.ext (Ext0.put m4) _ _ r1, by omega, e'⟩
            · rw [List.length_zip, List.length_map]
              omega
            · rw [upd_same, e1]
  · have hi' : i = xs.length := by omega
    subst hi'
    rw [List.drop_length] at e'
    cases e'
    exact .inl ⟨it.stop _ φ' H (Nat.le_refl _) y'.toExt0, q φ' H acc y' hm rh' eD rv0 hz⟩
end
section
variable {X : Cx} {ca : CA}
theorem dc_data {tgd : Tg} {vs : List Nat} {al : Bool} {mi : Sl → PH → M (List PV)} {mk mv : Sl → PH → M PV} (hv : ∀ i, i ∈ vs ↔ i ∈ tgd.ids) (σ : St) (H : Hp) (Q : VK)
    (q : tD X.K ca (fun s h => bd (mi s h) fun xs h => ob (dcL tgd mk mv s xs [] [] h) fun p => newD al p.1 p.2.1 p.2.2) σ H Q) : tDc (tDI X.K ca mi) (gOf X.K tgd) tYes (tD X.K ca mk) (tD X.K ca mv) vs σ H Q := by
  obtain ⟨φ, s, h, x, h', rs, rh, e, q⟩ := q
  obtain ⟨xs, h1, e1, e⟩ := bd_eq e
  obtain ⟨⟨kd, ld, h2⟩, e2, e⟩ := ob_eq e
  refine ⟨φ, s, h, xs, h1, rs, rh, e1, fun J φ1 H1 y1 rh1 it => fun D hD => ?_⟩
  refine dc_turns it (rs.ext y1.toExt0) rh1 e2 hv hD fun φ' H' acc y' hm rh' eD rv z => ?_
  exact apart_D hD rh1 y' hm rh' eD rv z e fun v φ3 H3 y3 rh3 r3 => q v φ3 H3 (y1.trans y3) rh3 r3
end
end Lt

set_option maxRecDepth 100000
namespace Lt
open PySem PySem.Spec L2
/-- but for dicts that are locked or let loose all stays -/
structure SW (H H' : Hp) : Prop where
  oth : ∀ a u, H a = some u → (∀ kvs, u ≠ .dK kvs) → (∀ o kvs, u ≠ .frz o (.dK kvs)) → H' a = some u
  dct : ∀ a kvs, Rd H a (.dK kvs) → Rd H' a (.dK kvs)
section
variable {K : PySem.W.Frag} {ca : CA} {φ φ' : Pl} {h : PH} {H H' : Hp}
mutual
theorem RV.sw (x : SW H H') : ∀ (d : PV) (v : V), RV K ca φ H d v → RV K ca φ H' d v
  | .non, _, h => h
  | .bl _, _, h => h
  | .int _, _, h => h
  | .str _, _, h => h
  | .tup l, v, h => by
    obtain ⟨a, vs, e, f, z, r⟩ := h
    exact ⟨a, vs, e, f.imp (fun f => ⟨f.1.imp (fun f => x.oth a _ f (fun _ z => nomatch z) (fun _ _ z => nomatch z)) fun ⟨o, f⟩ => ⟨o, x.oth a _ f (fun _ z => nomatch z) (fun _ _ z => by cases z)⟩, f.2⟩) id, z, RVs.sw x l vs r⟩
  | .ptup l, v, h => by
    obtain ⟨a, vs, e, ⟨o, d, f⟩, z, r⟩ := h
    exact ⟨a, vs, e, ⟨o, d, x.oth a _ f.1 (fun _ z => nomatch z) (fun _ _ z => by cases z), f.2⟩, z, RVs.sw x l vs r⟩
  | .lst l, v, h => by
    obtain ⟨a, vs, e, f, z, r⟩ := h
    exact ⟨a, vs, e, ⟨x.oth a _ f.1 (fun _ z => nomatch z) (fun _ _ z => nomatch z), f.2⟩, z, RVs.sw x l vs r⟩
  | .dct ks l, v, h => by
    obtain ⟨a, vs, e, f, z, r⟩ := h
    exact ⟨a, vs, e, ⟨x.dct a _ f.1, f.2⟩, z, RVs.sw x l vs r⟩
  | .obj c l, v, h => by
    obtain ⟨a, dx, vs, e, h1, h2, o1, o2, r⟩ := h
    exact ⟨a, dx, vs, e, x.oth a _ h1 (fun _ z => by unfold SlX.SlO at z; cases z) (fun _ _ z => by unfold SlX.SlO at z; cases z), x.oth dx _ h2 (fun _ z => nomatch z) (fun _ _ z => nomatch z), o1, o2, RVs.sw x l vs r⟩
  | .ref n, v, h => h
  | .rtx _, _, h => h
  | .scr l, v, h => by
    obtain ⟨a, e, f, z⟩ := h
    exact ⟨a, e, f.imp (fun f => ⟨f.1.imp fun o f => x.oth a _ f (fun _ z => nomatch z) (fun _ _ z => by cases z), f.2⟩) id, z⟩
theorem RVs.sw (x : SW H H') : ∀ (l : List PV) (vs : List V), RVs K ca φ H l vs → RVs K ca φ H' l vs
  | [], _, h => h
  | d :: l, vs, h => by
    obtain ⟨v, r, e, h1, h2⟩ := h
    exact ⟨v, r, e, RV.sw x d v h1, RVs.sw x l r h2⟩
end
theorem ROs.sw (x : SW H H') : ∀ (l : List (Option PV)) (vs : List (Option V)), ROs K ca φ H l vs → ROs K ca φ H' l vs
  | [], _, h => h
  | d :: l, vs, h => by
    obtain ⟨v, r, e, h1, h2⟩ := h
    refine ⟨v, r, e, ?_, ROs.sw x l r h2⟩
    cases d with
    | none => exact trivial
    | some d => cases v with
      | none => exact h1
      | some v => exact RV.sw x d v h1
theorem RH.sw (r : RH K ca φ h H) (x : SW H H') (kp : ∀ p ∈ φ.l, H' p.1 = H p.1 ∧ H' p.2 = H p.2) (prv : ∀ d ∈ φ.x, H' d = H d) : RH K ca φ h H' := by
  refine ⟨r.len, fun n o e => ?_, r.sep, r.hid, fun d hd => by rw [prv d hd]; exact r.prv d hd⟩
  obtain ⟨p, e1, ro⟩ := r.at_ n o e
  obtain ⟨k1, k2⟩ := kp p (List.mem_of_getElem? e1)
  refine ⟨p, e1, ?_⟩
  cases o with
  | lst l =>
    obtain ⟨z, vs, q, r⟩ := ro
    exact ⟨z, vs, k1.trans q, RVs.sw x l vs r⟩
  | dct ks l =>
    obtain ⟨z, vs, q, y, r⟩ := ro
    exact ⟨z, vs, k1.trans q, y, RVs.sw x l vs r⟩
  | ins c l =>
    obtain ⟨⟨z, u, y⟩, vs, q, r⟩ := ro
    refine ⟨⟨z, u, k2.trans y⟩, vs, ?_, ROs.sw x l vs r⟩
    rcases q with ⟨q1, q2⟩ | ⟨q1, q2⟩
    · exact .inl ⟨k1.trans q1, q2⟩
    · exact .inr ⟨k1.trans q1, k2.trans q2⟩
theorem RS.sw {s : Sl} {σ : St} (r : RS K ca φ H s σ) (x : SW H H') : RS K ca φ H' s σ := ⟨r.1, fun i d e => let ⟨v, e1, r1⟩ := r.2 i d e; ⟨v, e1, RV.sw x d v r1⟩⟩
theorem SW.lock {d : Addr} {kvs : List (Key × V)} {o : Obj} (e : H d = some (.dK kvs)) : SW H (upd H d (.frz o (.dK kvs))) := by
  refine ⟨fun a u ha n1 n2 => ?_, fun a l ha => ?_⟩
  · rw [upd_ne (fun z => by rw [z, e] at ha; exact n1 kvs (Option.some.inj ha).symm)]
    exact ha
  · by_cases hz : a = d
    · subst hz
      rcases ha with ha | ⟨o', ha⟩
      · rw [e] at ha
        cases ha
        exact .inr ⟨o, upd_same⟩
      · rw [e] at ha
        cases ha
    · rcases ha with ha | ⟨o', ha⟩
      · exact .inl (by rw [upd_ne hz]; exact ha)
      · exact .inr ⟨o', by rw [upd_ne hz]; exact ha⟩
theorem SW.unlock {d : Addr} {kvs : List (Key × V)} {o : Obj} (e : H d = some (.frz o (.dK kvs))) : SW H (upd H d (.dK kvs)) := by
  refine ⟨fun a u ha n1 n2 => ?_, fun a l ha => ?_⟩
  · rw [upd_ne (fun z => by rw [z, e] at ha; exact n2 o kvs (Option.some.inj ha).symm)]
    exact ha
  · by_cases hz : a = d
    · subst hz
      rcases ha with ha | ⟨o', ha⟩
      · rw [e] at ha
        cases ha
      · rw [e] at ha
        cases ha
        exact .inl upd_same
    · rcases ha with ha | ⟨o', ha⟩
      · exact .inl (by rw [upd_ne hz]; exact ha)
      · exact .inr ⟨o', by rw [upd_ne hz]; exact ha⟩
theorem RH.upd_off (r : RH K ca φ h H) {d : Addr} {w : HO} (f : Off φ d) (x : SW H (upd H d w)) : RH K ca φ h (upd H d w) :=
  r.sw x (fun p hp => ⟨upd_ne (fun z => (f.1 p hp).1 z.symm), upd_ne (fun z => (f.1 p hp).2 z.symm)⟩) fun b hb => upd_ne (fun z => f.2 (z ▸ hb))
/-- from the lock's start to behind its end -/
theorem Ext.locked {d : Addr} {kvs : List (Key × V)} {o : Obj} (e : H d = some (.dK kvs)) (f : Off φ d) (y : Ext φ (upd H d (.frz o (.dK kvs))) φ' H') : Ext φ H φ' (upd H' d (.dK kvs)) := by
  refine ⟨⟨y.pre, fun a u ha hf => ?_⟩, fun b hb => ⟨(y.keepx b hb).1, fun u hu => ?_⟩⟩
  · by_cases hz : a = d
    · subst hz
      rw [e] at ha
      cases ha
      exact ⟨upd_same, (y.keep a _ upd_same hf).2⟩
    · obtain ⟨k1, k2⟩ := y.keep a u (by rw [upd_ne hz]; exact ha) hf
      exact ⟨by rw [upd_ne hz]; exact k1, k2⟩
  · have hz : b ≠ d := fun z => f.2 (z ▸ hb)
    rw [upd_ne hz]
    exact (y.keepx b hb).2 u (by rw [upd_ne hz]; exact hu)
end
def tP (P : St → Hp → V → Prop) : TE := fun σ H Q => ∃ v, P σ H v ∧ Q v H
structure Ptd (K : PySem.W.Frag) (ca : CA) (P : St → Hp → V → Prop) (m : Sl → PH → M PV) : Prop where
  data : ∀ φ s h H σ x h', RS K ca φ H s σ → RH K ca φ h H → m s h = some (x, h') → h' = h ∧ ∃ v, P σ H v ∧ RV K ca φ H x v
  lock : ∀ σ H d kvs o v, P σ H v → H d = some (.dK kvs) → P σ (upd H d (.frz o (.dK kvs))) v
/-- the items of a dict that is walked: its keys, or its pairs -/
inductive Dw where | keys | items
def Dw.it : Dw → Addr → Obj → List (Key × V) → L2.It
  | .keys => Itk
  | .items => Iti
def keysL (ks : List DK) : List PV := ks.map fun | .inl i => .int i | .inr x => .str x
def Dw.xs : Dw → List DK → List PV → List PV
  | .keys, ks, _ => keysL ks
  | .items, ks, l => itemsL ks l
def kPV : DK → PV
  | .inl i => .int i
  | .inr t => .str t
section
variable {K : PySem.W.Frag} {ca : CA} {φ φ' : Pl} {h : PH} {H H' : Hp}
/-- the keys are texts that a program can hold -/
def kOk : DK → Bool
  | .inl _ => true
  | .inr x => decide (x.length ≤ sizeLine) && x.all (· < 0x110000)
def ksOk (ks : List DK) : Bool := ks.all kOk
theorem rv_kPV {k : DK} (h : kOk k = true) : RV K ca φ H (kPV k) (kV (dk k)) := by
  cases k with
  | inl i => exact rfl
  | inr x =>
    have h : (decide (x.length ≤ sizeLine) && x.all (· < 0x110000)) = true := h
    rw [Bool.and_eq_true, decide_eq_true_eq] at h
    exact ⟨rfl, h.1, h.2⟩
theorem itemsL_get : ∀ {ks : List DK} {l : List PV} {i : Nat} {x : PV}, (itemsL ks l)[i]? = some x → ∃ k y, ks[i]? = some k ∧ l[i]? = some y ∧ x = .tup [kPV k, y]
  | [], _, i, x, e => by simp [itemsL] at e
  | _ :: _, [], i, x, e => by simp [itemsL] at e
  | k :: ks, y :: l, 0, x, e => by
    have e' : some (PV.tup [kPV k, y]) = some x := by
      cases k <;> simpa [itemsL, kPV] using e
    cases e'
    exact ⟨k, y, rfl, rfl, rfl⟩
  | k :: ks, y :: l, i + 1, x, e => by
    have e' : (itemsL ks l)[i]? = some x := by simpa [itemsL] using e
    obtain ⟨k', y', h1, h2, h3⟩ := itemsL_get e'
    exact ⟨k', y', by simpa using h1, by simpa using h2, h3⟩
theorem itemsL_length : ∀ {ks : List DK} {l : List PV}, ks.length = l.length → (itemsL ks l).length = ks.length
  | [], [], _ => rfl
  | k :: ks, y :: l, e => by
    have e' : ks.length = l.length := by simpa using e
    show (itemsL ks l).length + 1 = ks.length + 1
    rw [itemsL_length e']
theorem ItOk.dict {w : Dw} {ks : List DK} {l : List PV} {vs : List V} {d : Addr} {o : Obj} (hk : ksOk ks = true) (sz : ks.length ≤ sizeLine) (e0 : H d = some (.frz o (.dK ((ks.map dk).zip vs)))) (f : Off φ d) (z : ks.length = l.length) (r : RVs K ca φ H l vs) :
    ItOk K ca (w.it d o ((ks.map dk).zip vs)) (w.xs ks l) φ H := by
  have hl := r.length
  have hz : ((ks.map dk).zip vs).length = ks.length := by rw [List.length_zip, List.length_map]; omega
  have zget : ∀ (i : Nat) (k : DK) (v : V), ks[i]? = some k → vs[i]? = some v → ((ks.map dk).zip vs)[i]? = some (dk k, v) := fun i k v h1 h2 => by
    rw [List.getElem?_zip_eq_some]
    exact ⟨by rw [List.getElem?_map, h1]; rfl, h2⟩
  have kok : ∀ (i : Nat) (k : DK), ks[i]? = some k → kOk k = true := fun i k e => List.all_eq_true.mp hk k (List.mem_of_getElem? e)
  cases w with
  | keys =>
    refine ⟨by show (keysL ks).length ≤ _; unfold keysL; rw [List.length_map]; exact sz, fun i x φ' H' e y => ?_, fun i φ' H' e y => ?_⟩
    · have e' : (keysL ks)[i]? = some x := e
      unfold keysL at e'
      rw [List.getElem?_map] at e'
      cases e1 : ks[i]? with
      | none => rw [e1] at e'; cases e'
      | some k =>
        rw [e1] at e'
        have hx : x = kPV k := by cases k <;> (cases e'; rfl)
        subst hx
        have hi : i < ks.length := (List.getElem?_eq_some_iff.mp e1).1
        refine ⟨⟨(y.keep d _ e0 f).1, by rw [hz]; exact hi⟩, fun v H2 h rh yl => ?_⟩
        obtain ⟨eH, k', u, e2, ev⟩ := yl
        subst eH ev
        obtain ⟨h1, h2⟩ := List.getElem?_zip_eq_some.mp e2
        rw [List.getElem?_map, e1] at h1
        cases h1
        exact ⟨Ext.refl, rh, rv_kPV (kok i k e1)⟩
    · have e' : (keysL ks).length ≤ i := e
      unfold keysL at e'
      rw [List.length_map] at e'
      exact ⟨(y.keep d _ e0 f).1, by rw [hz]; exact e'⟩
  | items =>
    refine ⟨by show (itemsL ks l).length ≤ _; rw [itemsL_length z]; exact sz, fun i x φ' H' e y => ?_, fun i φ' H' e y => ?_⟩
    · obtain ⟨k, u, e1, e2, ex⟩ := itemsL_get (show (itemsL ks l)[i]? = some x from e)
      subst ex
      have hi : i < ks.length := (List.getElem?_eq_some_iff.mp e1).1
      obtain ⟨v, e3, rv⟩ := RVs.get (RVs.ext y _ _ r) e2
      refine ⟨⟨(y.keep d _ e0 f).1, by rw [hz]; exact hi⟩, fun v' H2 h rh yl => ?_⟩
      obtain ⟨T, k', v2, e4, ev, hT, eH⟩ := yl
      subst ev eH
      rw [zget i k v e1 e3] at e4
      cases e4
      have xn : Ext φ' H' φ' (upd H' T (.tup [kV (dk k), v])) := Ext.new hT
      exact ⟨xn, rh.new hT, T, _, rfl, .inl ⟨.inl upd_same, rh.off hT⟩, Nat.le_trans (show [kPV k, u].length ≤ 2 from Nat.le_refl 2) (by rw [sizeLine_eq]; decide), RVs.cons (rv_kPV (kok i k e1)) (RVs.one (RV.ext xn.toExt0 _ _ rv))⟩
    · have e' : (itemsL ks l).length ≤ i := e
      rw [itemsL_length z] at e'
      exact ⟨(y.keep d _ e0 f).1, by rw [hz]; exact e'⟩
end
end Lt

set_option maxRecDepth 100000
namespace Lt
open PySem PySem.Spec L2
theorem PE.or {X : Cx} {e : Expr} {t t' : TE} (h : PE X e t) (h' : PE X e t') : PE X e (fun σ H Q => t σ H Q ∨ t' σ H Q) := ⟨fun pins s σ H Q I q => q.elim (h.run pins s σ H Q I) (h'.run pins s σ H Q I)⟩
theorem PS.or {X : Cx} {e : Stmt} {t t' : TS} (h : PS X e t) (h' : PS X e t') : PS X e (fun D σ H => t D σ H ∨ t' D σ H) := ⟨fun pins s σ H D I q => q.elim (h.run pins s σ H D I) (h'.run pins s σ H D I)⟩
/-- dict walks -/
def iDict (w : Dw) (P : St → Hp → V → Prop) : TI := match w with
  | .keys => iKeys (tP P)
  | .items => iItems (tP P)
/-- the data of a dict walk -/
def dwV (w : Dw) (m : Sl → PH → M PV) : Sl → PH → M (List PV) := fun s h => bd (m s h) fun x h => match x with
  | .dct ks l => if ksOk ks = true ∧ ks.length ≤ sizeLine then some (w.xs ks l, h) else none
  | _ => none
theorem dwV_eq {w : Dw} {m : Sl → PH → M PV} {s : Sl} {h h' : PH} {xs : List PV} (e : dwV w m s h = some (xs, h')) : ∃ ks l, m s h = some (.dct ks l, h') ∧ xs = w.xs ks l ∧ ksOk ks = true ∧ ks.length ≤ sizeLine := by
  obtain ⟨x, h1, e1, e⟩ := bd_eq e
  cases x with
  | dct ks l =>
    have e' : (if ksOk ks = true ∧ ks.length ≤ sizeLine then some (w.xs ks l, h1) else none) = some (xs, h') := e
    split at e'
    · rename_i c
      cases e'
      exact ⟨ks, l, e1, rfl, c.1, c.2⟩
    · cases e'
  | _ => cases e
section
variable {K : PySem.W.Frag} {ca : CA} {φ φ' : Pl} {h : PH} {H H' : Hp}
theorem iDict_of {w : Dw} {P : St → Hp → V → Prop} {σ : St} {R : L2.It → Hp → Prop} {d : Addr} {o : Obj} {kvs : List (Key × V)} (e : H d = some (.frz o (.dK kvs))) (p : P σ H (.ref d)) (r : R (w.it d o kvs) H) : iDict w P σ H R := by
  cases w with
  | keys => exact ⟨.ref d, p, d, o, rfl, .inl ⟨kvs, e, r⟩⟩
  | items => exact ⟨.ref d, p, d, o, kvs, rfl, e, r⟩
theorem Pst.lock {x : PV} {Q : VK} {d : Addr} {kvs : List (Key × V)} {o : Obj} (e : H d = some (.dK kvs)) (f : Off φ d) (q : Pst K ca φ H x h Q) :
    Pst K ca φ (upd H d (.frz o (.dK kvs))) x h (fun v H' => H' d = some (.frz o (.dK kvs)) ∧ Q v (upd H' d (.dK kvs))) := by
  intro v φ' H' y rh r
  have k := y.keep d _ upd_same f
  exact ⟨k.1, q v φ' _ (Ext.locked e f y) (rh.upd_off k.2 (SW.unlock k.1)) (RV.sw (SW.unlock k.1) _ _ r)⟩
theorem PstO.lock {x : Out} {D : Ends} {d : Addr} {kvs : List (Key × V)} {o : Obj} (e : H d = some (.dK kvs)) (f : Off φ d) (q : PstO K ca φ H x D) :
    PstO K ca φ (upd H d (.frz o (.dK kvs))) x ⟨fun σ' H' => H' d = some (.frz o (.dK kvs)) ∧ D.nx σ' (upd H' d (.dK kvs)), fun v H' => H' d = some (.frz o (.dK kvs)) ∧ D.rt v (upd H' d (.dK kvs)), fun σ' H' => H' d = some (.frz o (.dK kvs)) ∧ D.bk σ' (upd H' d (.dK kvs)), fun σ' H' => H' d = some (.frz o (.dK kvs)) ∧ D.ct σ' (upd H' d (.dK kvs))⟩ := by
  cases x with
  | nx s h => exact fun σ' φ' H' y rh r => ⟨(y.keep d _ upd_same f).1, q σ' φ' _ (Ext.locked e f y) (rh.upd_off (y.keep d _ upd_same f).2 (SW.unlock (y.keep d _ upd_same f).1)) (r.sw (SW.unlock (y.keep d _ upd_same f).1))⟩
  | rt s h => exact fun σ' φ' H' y rh r => ⟨(y.keep d _ upd_same f).1, q σ' φ' _ (Ext.locked e f y) (rh.upd_off (y.keep d _ upd_same f).2 (SW.unlock (y.keep d _ upd_same f).1)) (RV.sw (SW.unlock (y.keep d _ upd_same f).1) _ _ r)⟩
  | bk s h => exact fun σ' φ' H' y rh r => ⟨(y.keep d _ upd_same f).1, q σ' φ' _ (Ext.locked e f y) (rh.upd_off (y.keep d _ upd_same f).2 (SW.unlock (y.keep d _ upd_same f).1)) (r.sw (SW.unlock (y.keep d _ upd_same f).1))⟩
  | ct s h => exact fun σ' φ' H' y rh r => ⟨(y.keep d _ upd_same f).1, q σ' φ' _ (Ext.locked e f y) (rh.upd_off (y.keep d _ upd_same f).2 (SW.unlock (y.keep d _ upd_same f).1)) (r.sw (SW.unlock (y.keep d _ upd_same f).1))⟩
/-- what walks a dict, locked or not -/
theorem walk_E {w : Dw} {P : St → Hp → V → Prop} {m : Sl → PH → M PV} {T : TE} (pt : Ptd K ca P m) {F : Sl → List PV → PH → M PV}
    (hT : ∀ (J : L2.It) (xs : List PV) (φ : Pl) (H : Hp) (s : Sl) (σ : St) (h : PH) (x : PV) (h' : PH) (Q : VK), ItOk K ca J xs φ H → RS K ca φ H s σ → RH K ca φ h H → F s xs h = some (x, h') → Pst K ca φ H x h' Q → (∀ d o kvs, H d = some (.frz o (.dK kvs)) → P σ H (.ref d) → J = w.it d o kvs → T σ H Q))
    (σ : St) (H : Hp) (Q : VK) (q : tD K ca (fun s h => bd (dwV w m s h) fun xs h => F s xs h) σ H Q) : tLockE T σ H Q ∨ T σ H Q := by
  obtain ⟨φ, s, h, x, h', rs, rh, e, q⟩ := q
  obtain ⟨xs, h1, e1, e⟩ := bd_eq e
  have eF : F s xs h1 = some (x, h') := e
  obtain ⟨ks, l, e2, ex, k1, k2⟩ := dwV_eq e1
  subst ex
  obtain ⟨eh, v, p, r⟩ := pt.data φ s h H σ _ _ rs rh e2
  subst eh
  obtain ⟨d, vs, ev, ⟨rd, f⟩, hz, rl⟩ := r
  subst ev
  rcases rd with rd | ⟨o, rd⟩
  · refine .inl ⟨d, _, rd, trivial, fun od => ?_⟩
    have sw := SW.lock (o := od) rd
    have rh' := rh.upd_off f sw
    have it := ItOk.dict (K := K) (ca := ca) (w := w) (o := od) k1 k2 (upd_same (H := H) (a := d)) f hz (RVs.sw sw _ _ rl)
    exact hT _ _ φ _ s σ _ x h' _ it (rs.sw sw) rh' eF (Pst.lock rd f q) d od _ upd_same (pt.lock σ H d _ od _ p rd) rfl
  · have it := ItOk.dict (K := K) (ca := ca) (w := w) k1 k2 rd f hz rl
    exact .inr (hT _ _ φ _ s σ _ x h' _ it rs rh eF q d o _ rd p rfl)
end
section
variable {X : Cx} {ca : CA}
/-- for statements -/
theorem walk_S {w : Dw} {P : St → Hp → V → Prop} {m : Sl → PH → M PV} {T : TS} {K : PySem.W.Frag} (pt : Ptd K ca P m) {F : Sl → List PV → PH → Option Out}
    (hT : ∀ (J : L2.It) (xs : List PV) (φ : Pl) (H : Hp) (s : Sl) (σ : St) (h : PH) (x : Out) (D : Ends), ItOk K ca J xs φ H → RS K ca φ H s σ → RH K ca φ h H → F s xs h = some x → PstO K ca φ H x D → (∀ d o kvs, H d = some (.frz o (.dK kvs)) → P σ H (.ref d) → J = w.it d o kvs → T D σ H))
    (D : Ends) (σ : St) (H : Hp) (q : tDS K ca (fun s h => bd (dwV w m s h) fun xs h => F s xs h) D σ H) : tLock T D σ H ∨ T D σ H := by
  obtain ⟨φ, s, h, x, rs, rh, e, q⟩ := q
  obtain ⟨xs, h1, e1, e⟩ := bd_eq e
  have eF : F s xs h1 = some x := e
  obtain ⟨ks, l, e2, ex, k1, k2⟩ := dwV_eq e1
  subst ex
  obtain ⟨eh, v, p, r⟩ := pt.data φ s h H σ _ _ rs rh e2
  subst eh
  obtain ⟨d, vs, ev, ⟨rd, f⟩, hz, rl⟩ := r
  subst ev
  rcases rd with rd | ⟨o, rd⟩
  · refine .inl ⟨d, _, rd, trivial, fun od => ?_⟩
    have sw := SW.lock (o := od) rd
    have rh' := rh.upd_off f sw
    have it := ItOk.dict (K := K) (ca := ca) (w := w) (o := od) k1 k2 (upd_same (H := H) (a := d)) f hz (RVs.sw sw _ _ rl)
    exact hT _ _ φ _ s σ _ x _ it (rs.sw sw) rh' eF (PstO.lock rd f q) d od _ upd_same (pt.lock σ H d _ od _ p rd) rfl
  · have it := ItOk.dict (K := K) (ca := ca) (w := w) k1 k2 rd f hz rl
    exact .inr (hT _ _ φ _ s σ _ x _ it rs rh eF q d o _ rd p rfl)

abbrev Blk (X : Cx) (scope : Scope) (P : Cx → Prop) : Prop := ∀ (s : Shared) (H : Hp) (C : Addr) (cl : List (Str × Addr)) (fp : List Addr), P (X.blk s H scope (compEnvC scope cl C X.env) fp)
theorem tYes_of {mt : Sl → PH → M Bool} (hm : ∀ s h, mt s h = some (true, h)) : ∀ {K : PySem.W.Frag} (σ : St) (H : Hp) (Q : Bool → Hp → Prop), tDT K ca mt σ H Q → tYes σ H Q := by
  intro K σ H Q q
  obtain ⟨φ, s, h, b, h', rs, rh, e, q⟩ := q
  rw [hm] at e
  cases e
  exact q φ H Ext.refl rh
theorem wkTs {X : Cx} {ifs : List Expr} {t t' : TT} (h : PTs X ifs t) (w : ∀ σ H Q, t' σ H Q → t σ H Q) : PTs X ifs t' := ⟨fun pins s σ H Q I hq => h.run pins s σ H Q I (w _ _ _ hq)⟩
variable {elt tg iter : Expr} {ifs : List Expr} {scope : Scope} {own : List (Str × Nat)} {pos spos : Pos} {tgd : Tg} {mi : Sl → PH → M (List PV)} {mt : Sl → PH → M Bool} {me mk mv m0 : Sl → PH → M PV} {w : Dw} {P : St → Hp → V → Prop} {al : Bool}
/-- what a list comprehension does -/
def lcV (al : Bool) (tgd : Tg) (mi : Sl → PH → M (List PV)) (mt : Sl → PH → M Bool) (me : Sl → PH → M PV) : Sl → PH → M PV := fun s h => bd (mi s h) fun xs h => bd (lcL tgd mt me s xs h) fun ys h => newL al ys h
def dcV (al : Bool) (tgd : Tg) (mi : Sl → PH → M (List PV)) (mk mv : Sl → PH → M PV) : Sl → PH → M PV := fun s h => bd (mi s h) fun xs h => ob (dcL tgd mk mv s xs [] [] h) fun p => newD al p.1 p.2.1 p.2.2
theorem d_lc (hc : X.calm = true) (hN : X.N.Nodup) (hi : PI X tg iter (tDI X.K ca mi)) (ok : BlkOk X.N X.env.scope scope own) (hv : ∀ i, i ∈ own.map (·.2) ↔ i ∈ tgd.ids)
    (hg : Blk X scope fun Y => PG Y tg (gOf X.K tgd)) (ht : Blk X scope fun Y => PTs Y ifs (tDT X.K ca mt)) (he : Blk X scope fun Y => PE Y elt (tD X.K ca me)) (hs : ∀ x, foldedSetIterable iter X.env x = pure x) :
    PE X (.ListComp elt [⟨tg, iter, ifs, 0⟩] scope pos) (tD X.K ca (lcV al tgd mi mt me)) :=
  wkE (pe_lc hc hN hi ok hg ht he hs) (lc_data hv)
theorem lc_walk (hv : ∀ i, i ∈ own.map (·.2) ↔ i ∈ tgd.ids) {K : PySem.W.Frag} (J : L2.It) (xs : List PV) (φ : Pl) (H : Hp) (s : Sl) (σ : St) (h : PH) (x : PV) (h' : PH) (Q : VK) (it : ItOk K ca J xs φ H) (rs : RS K ca φ H s σ) (rh : RH K ca φ h H)
    (e : (bd (lcL tgd mt me s xs h) fun ys h => newL al ys h) = some (x, h')) (q : Pst K ca φ H x h' Q) (d : Addr) (o : Obj) (kvs : List (Key × V)) (ed : H d = some (.frz o (.dK kvs))) (p : P σ H (.ref d)) (eJ : J = w.it d o kvs) :
    tLc (iDict w P) (gOf K tgd) (tDT K ca mt) (tD K ca me) (own.map (·.2)) σ H Q := by
  subst eJ
  obtain ⟨ys, h2, e2, e⟩ := bd_eq e
  refine iDict_of ed p fun D hD => ?_
  exact lc_turns it rs rh e2 hv hD fun φ' H' acc y' hm rh' eD rv z => apart_L hD rh y' hm rh' eD rv z e q
theorem d_lcK (hc : X.calm = true) (hN : X.N.Nodup) (pt : Ptd X.K ca P m0) (hi : PI X tg iter (iDict w P)) (ok : BlkOk X.N X.env.scope scope own) (hv : ∀ i, i ∈ own.map (·.2) ↔ i ∈ tgd.ids)
    (hg : Blk X scope fun Y => PG Y tg (gOf X.K tgd)) (ht : Blk X scope fun Y => PTs Y ifs (tDT X.K ca mt)) (he : Blk X scope fun Y => PE Y elt (tD X.K ca me)) (hs : ∀ x, foldedSetIterable iter X.env x = pure x) :
    PE X (.ListComp elt [⟨tg, iter, ifs, 0⟩] scope pos) (tD X.K ca (lcV al tgd (dwV w m0) mt me)) := by
  have p := pe_lc (pos := pos) hc hN hi ok hg ht he hs
  exact wkE (PE.or (pe_lock p) p) (walk_E (F := fun s xs h => bd (lcL tgd mt me s xs h) fun ys h => newL al ys h) pt fun J xs φ H s σ h x h' Q it rs rh e q => lc_walk hv J xs φ H s σ h x h' Q it rs rh e q)
/-- name = [..] on one line -/
theorem d_setLc {i : Nat} {y : Str} {py : Pos} (hc : X.calm = true) (hN : X.N.Nodup) (hy : X.N[i]? = some y) (hyl : X.env.scope.names.lookup y = some .local)
    (hsw : swapsWith (.ListComp elt [⟨tg, iter, ifs, 0⟩] scope pos) (some (.Name y py)) spos.line X.env = pure true) (hi : PI X tg iter (tDI X.K ca mi)) (ok : BlkOk X.N X.env.scope scope own) (hv : ∀ i, i ∈ own.map (·.2) ↔ i ∈ tgd.ids)
    (hg : Blk X scope fun Y => PG Y tg (gOf X.K tgd)) (ht : Blk X scope fun Y => PTs Y ifs (tDT X.K ca mt)) (he : Blk X scope fun Y => PE Y elt (tD X.K ca me)) (hs : ∀ x, foldedSetIterable iter X.env x = pure x) :
    PS X (.Assign [.Name y py] (.ListComp elt [⟨tg, iter, ifs, 0⟩] scope pos) spos) (tAsg (tD X.K ca (lcV al tgd mi mt me)) (gName i)) :=
  wkS (ps_setLc hc hN hy hyl hsw hi ok hg ht he hs) fun D σ H q => lc_data hv σ H _ q
theorem d_setLcK {i : Nat} {y : Str} {py : Pos} (hc : X.calm = true) (hN : X.N.Nodup) (hy : X.N[i]? = some y) (hyl : X.env.scope.names.lookup y = some .local)
    (hsw : swapsWith (.ListComp elt [⟨tg, iter, ifs, 0⟩] scope pos) (some (.Name y py)) spos.line X.env = pure true) (pt : Ptd X.K ca P m0) (hi : PI X tg iter (iDict w P)) (ok : BlkOk X.N X.env.scope scope own) (hv : ∀ i, i ∈ own.map (·.2) ↔ i ∈ tgd.ids)
    (hg : Blk X scope fun Y => PG Y tg (gOf X.K tgd)) (ht : Blk X scope fun Y => PTs Y ifs (tDT X.K ca mt)) (he : Blk X scope fun Y => PE Y elt (tD X.K ca me)) (hs : ∀ x, foldedSetIterable iter X.env x = pure x) :
    PS X (.Assign [.Name y py] (.ListComp elt [⟨tg, iter, ifs, 0⟩] scope pos) spos) (tAsg (tD X.K ca (lcV al tgd (dwV w m0) mt me)) (gName i)) := by
  have p := ps_setLc (spos := spos) hc hN hy hyl hsw hi ok hg ht he hs
  refine wkS (PS.or (ps_lock p) p) fun D σ H q => ?_
  have := walk_E (F := fun s xs h => bd (lcL tgd mt me s xs h) fun ys h => newL al ys h) pt (T := tLc (iDict w P) (gOf X.K tgd) (tDT X.K ca mt) (tD X.K ca me) (own.map (·.2))) (w := w) (fun J xs φ H s σ h x h' Q it rs rh e q => lc_walk hv J xs φ H s σ h x h' Q it rs rh e q) σ H _ q
  exact this
theorem d_dc {vx : Expr} (hc : X.calm = true) (hN : X.N.Nodup) (hi : PI X tg iter (tDI X.K ca mi)) (ok : BlkOk X.N X.env.scope scope own) (hv : ∀ i, i ∈ own.map (·.2) ↔ i ∈ tgd.ids)
    (hg : Blk X scope fun Y => PG Y tg (gOf X.K tgd)) (hk : Blk X scope fun Y => PE Y elt (tD X.K ca mk)) (he : Blk X scope fun Y => PE Y vx (tD X.K ca mv)) (hs : ∀ x, foldedSetIterable iter X.env x = pure x) :
    PE X (.DictComp elt vx [⟨tg, iter, [], 0⟩] scope pos) (tD X.K ca (dcV al tgd mi mk mv)) :=
  wkE (pe_dc hc hN hi ok hg (fun _ _ _ _ _ => pts_nil) hk he hs) (dc_data hv)
theorem d_dcK {vx : Expr} (hc : X.calm = true) (hN : X.N.Nodup) (pt : Ptd X.K ca P m0) (hi : PI X tg iter (iDict w P)) (ok : BlkOk X.N X.env.scope scope own) (hv : ∀ i, i ∈ own.map (·.2) ↔ i ∈ tgd.ids)
    (hg : Blk X scope fun Y => PG Y tg (gOf X.K tgd)) (hk : Blk X scope fun Y => PE Y elt (tD X.K ca mk)) (he : Blk X scope fun Y => PE Y vx (tD X.K ca mv)) (hs : ∀ x, foldedSetIterable iter X.env x = pure x) :
    PE X (.DictComp elt vx [⟨tg, iter, [], 0⟩] scope pos) (tD X.K ca (dcV al tgd (dwV w m0) mk mv)) := by
  have p := pe_dc (pos := pos) hc hN hi ok hg (fun _ _ _ _ _ => pts_nil) hk he hs
  refine wkE (PE.or (pe_lock p) p) (walk_E (F := fun s xs h => ob (dcL tgd mk mv s xs [] [] h) fun p => newD al p.1 p.2.1 p.2.2) pt fun J xs φ H s σ h x h' Q it rs rh e q d o kvs ed pp eJ => ?_)
  subst eJ
  obtain ⟨⟨kd, ld, h2⟩, e2, e⟩ := ob_eq e
  refine iDict_of ed pp fun D hD => ?_
  exact dc_turns it rs rh e2 hv hD fun φ' H' acc y' hm rh' eD rv z => apart_D hD rh y' hm rh' eD rv z e q
end
end Lt

set_option maxRecDepth 100000
namespace Lt
open PySem PySem.Spec L2
/-- what a built-in's reading must do with data -/
def OpL (K : PySem.W.Frag) (ca : CA) (r : List V → Hp → VK → Prop) (f : List PV → PH → M PV) : Prop :=
  ∀ (φ : Pl) (h : PH) (H : Hp) (xs : List PV) (z : PV) (h' : PH) (vs : List V) (Q : VK), RH K ca φ h H → RVs K ca φ H xs vs → f xs h = some (z, h') → Pst K ca φ H z h' Q → r vs H Q
theorem t_cb {K : PySem.W.Frag} {ca : CA} {r : List V → Hp → VK → Prop} {f : List PV → PH → M PV} {m : Sl → PH → M (List PV)} (ol : OpL K ca r f) (σ : St) (H : Hp) (Q : VK)
    (q : tD K ca (fun s h => bd (m s h) fun vs h => f vs h) σ H Q) : tCB r (tDA K ca m) σ H Q := by
  obtain ⟨φ, s, h, x, h', rs, rh, e, q⟩ := q
  obtain ⟨xs, h1, e1, e⟩ := bd_eq e
  exact ⟨φ, s, h, xs, h1, rs, rh, e1, fun vs φ1 H1 y1 rh1 r1 => ol φ1 h1 H1 xs x h' vs Q rh1 r1 e fun v φ2 H2 y2 rh2 r2 => q v φ2 H2 (y1.trans y2) rh2 r2⟩
section
variable {X : Cx} {ca : CA} {x : Str} {p pos : Pos} {e : Expr} {es : List Expr} {id T : String} {r : List V → Hp → VK → Prop} {f : List PV → PH → M PV} {m : Sl → PH → M (List PV)}
theorem d_callB (hc : CallR X (.builtin id) r) (ol : OpL X.K ca r f) (hg : Gl X x) (hm : X.mg x = none) (hv : bootBuiltins x = some (.builtin id)) (ha : PA X (e :: es) (tDA X.K ca m)) (hn : x ≠ "__name__") (hdb : (x == ("__debug__" : Str)) = false)
    (he : starEach (e :: es) X.env = (false, eval e X.env) :: starEach es X.env) (hpl : (backTo pos (starEach es X.env)).any (·.1) = false) : PE X (.Call (.Name x p) (e :: es) [] pos) (tD X.K ca fun s h => bd (m s h) fun vs h => f vs h) :=
  wkE (pe_callB hc hg hm hv ha hn hdb he hpl) (t_cb ol)
theorem d_callTy (hc : CallR X (.type T) r) (ol : OpL X.K ca r f) (hg : Gl X x) (hm : X.mg x = none) (hv : bootBuiltins x = some (.type T)) (ha : PA X (e :: es) (tDA X.K ca m)) (hn : x ≠ "__name__") (hdb : (x == ("__debug__" : Str)) = false)
    (he : starEach (e :: es) X.env = (false, eval e X.env) :: starEach es X.env) (hpl : (backTo pos (starEach es X.env)).any (·.1) = false) : PE X (.Call (.Name x p) (e :: es) [] pos) (tD X.K ca fun s h => bd (m s h) fun vs h => f vs h) :=
  wkE (pe_callTy hc hg hm hv ha hn hdb he hpl) (t_cb ol)
end
section
variable {K : PySem.W.Frag} {ca : CA} {φ : Pl} {h : PH} {H : Hp}
theorem RVs.one_of {x : PV} {vs : List V} (r : RVs K ca φ H [x] vs) : ∃ v, vs = [v] ∧ RV K ca φ H x v := by
  obtain ⟨v, r, e, r1, r2⟩ := r
  have : r = [] := r2
  subst this
  exact ⟨v, e, r1⟩
theorem RVs.two_of {x y : PV} {vs : List V} (r : RVs K ca φ H [x, y] vs) : ∃ v u, vs = [v, u] ∧ RV K ca φ H x v ∧ RV K ca φ H y u := by
  obtain ⟨v, r, e, r1, r2⟩ := r
  obtain ⟨u, e2, r3⟩ := RVs.one_of r2
  subst e2
  exact ⟨v, u, e, r1, r3⟩
theorem boolsV_vs : ∀ {l : List PV} {bs : List Bool} {vs : List V}, boolsV l = some bs → RVs K ca φ H l vs → vs = bs.map V.bl
  | [], bs, vs, e, r => by
    cases e
    exact r
  | x :: l, bs, vs, e, r => by
    obtain ⟨v, us, ev, r1, r2⟩ := r
    cases x with
    | bl b =>
      have e' : (boolsV l).map (b :: ·) = some bs := e
      cases e1 : boolsV l with
      | none => rw [e1] at e'; cases e'
      | some bs' =>
        rw [e1] at e'
        cases e'
        rw [ev, boolsV_vs e1 r2, show v = .bl b from r1]
        rfl
    | _ => cases e
theorem intsV_vs : ∀ {l : List PV} {bs : List Int} {vs : List V}, intsV l = some bs → RVs K ca φ H l vs → vs = bs.map V.int
  | [], bs, vs, e, r => by
    cases e
    exact r
  | x :: l, bs, vs, e, r => by
    obtain ⟨v, us, ev, r1, r2⟩ := r
    cases x with
    | int b =>
      have e' : (intsV l).map (b :: ·) = some bs := e
      cases e1 : intsV l with
      | none => rw [e1] at e'; cases e'
      | some bs' =>
        rw [e1] at e'
        cases e'
        rw [ev, intsV_vs e1 r2, show v = .int b from r1]
        rfl
    | _ => cases e
theorem strsV_vs : ∀ {l : List PV} {bs : List Tx} {vs : List V}, strsV l = some bs → RVs K ca φ H l vs → vs = (bs.map sx).map V.str
  | [], bs, vs, e, r => by
    cases e
    exact r
  | x :: l, bs, vs, e, r => by
    obtain ⟨v, us, ev, r1, r2⟩ := r
    cases x with
    | str b =>
      have e' : (strsV l).map (b :: ·) = some bs := e
      cases e1 : strsV l with
      | none => rw [e1] at e'; cases e'
      | some bs' =>
        rw [e1] at e'
        cases e'
        rw [ev, strsV_vs e1 r2, show v = .str (sx b) from r1.1]
        rfl
    | _ => cases e
theorem foldl_max (l : List Int) : ∀ i : Int, (l.foldl (fun a b => if b > a then b else a) i ∈ i :: l) ∧ ∀ y ∈ i :: l, y ≤ l.foldl (fun a b => if b > a then b else a) i := by
  induction l with
  | nil => intro i; simp
  | cons j l ih =>
    intro i
    rw [List.foldl_cons]
    obtain ⟨h1, h2⟩ := ih (if j > i then j else i)
    refine ⟨?_, fun y hy => ?_⟩
    · rcases List.mem_cons.mp h1 with h1 | h1
      · rw [h1]
        split <;> simp
      · exact List.mem_cons_of_mem _ (List.mem_cons_of_mem _ h1)
    · have h3 := h2 (if j > i then j else i) List.mem_cons_self
      rcases List.mem_cons.mp hy with hy | hy
      · subst hy
        refine Int.le_trans ?_ h3
        split <;> omega
      · rcases List.mem_cons.mp hy with hy | hy
        · subst hy
          refine Int.le_trans ?_ h3
          split <;> omega
        · exact h2 y (List.mem_cons_of_mem _ hy)
theorem foldl_min (l : List Int) : ∀ i : Int, (l.foldl (fun a b => if b < a then b else a) i ∈ i :: l) ∧ ∀ y ∈ i :: l, l.foldl (fun a b => if b < a then b else a) i ≤ y := by
  induction l with
  | nil => intro i; simp
  | cons j l ih =>
    intro i
    rw [List.foldl_cons]
    obtain ⟨h1, h2⟩ := ih (if j < i then j else i)
    refine ⟨?_, fun y hy => ?_⟩
    · rcases List.mem_cons.mp h1 with h1 | h1
      · rw [h1]
        split <;> simp
      · exact List.mem_cons_of_mem _ (List.mem_cons_of_mem _ h1)
    · have h3 := h2 (if j < i then j else i) List.mem_cons_self
      rcases List.mem_cons.mp hy with hy | hy
      · subst hy
        refine Int.le_trans h3 ?_
        split <;> omega
      · rcases List.mem_cons.mp hy with hy | hy
        · subst hy
          refine Int.le_trans h3 ?_
          split <;> omega
        · exact h2 y (List.mem_cons_of_mem _ hy)
end
theorem CallR.or3 {X : Cx} {f : Value} {r r' : List V → Hp → VK → Prop} (h : CallR X f r) (h' : CallR X f r') : CallR X f (fun xs H Q => r xs H Q ∨ r' xs H Q) := CallR.or h h'
def rLen (K : PySem.W.Frag) : List V → Hp → VK → Prop := fun xs H Q => (∃ x n, xs = [x] ∧ LenV K x H n ∧ Q (.int n) H) ∨ ∃ a kvs, xs = [.ref a] ∧ Rd H a (.dK kvs) ∧ Q (.int kvs.length) H
section
variable {K : PySem.W.Frag} {ca : CA}
theorem ol_len : OpL K ca (rLen K) (biV .len) := by
  intro φ h H xs z h' vs Q rh r0 e q
  cases xs with
  | nil => cases e
  | cons x l => cases l with
    | cons y l => cases e
    | nil =>
      obtain ⟨v, ev, r⟩ := RVs.one_of r0
      subst ev
      have e' : (lenV h x).map (fun n => (PV.int n, h)) = some (z, h') := e
      cases e1 : lenV h x with
      | none => rw [e1] at e'; cases e'
      | some n =>
        rw [e1] at e'
        cases e'
        have fin : Q (.int n) H := q _ φ H Ext.refl rh rfl
        cases x with
        | str t =>
          cases e1
          exact .inl ⟨_, _, rfl, by rw [r.1]; exact ⟨by rw [sx_length]; exact r.2.1, by rw [sx_length]⟩, fin⟩
        | tup l =>
          cases e1
          obtain ⟨a, us, ev, f, _, rs⟩ := r
          subst ev
          exact .inl ⟨_, _, rfl, .inr ⟨us, SqT_of f, rs.length⟩, fin⟩
        | lst l =>
          cases e1
          obtain ⟨a, us, ev, f, _, rs⟩ := r
          subst ev
          exact .inl ⟨_, _, rfl, .inl ⟨us, .inl (.inl f.1), rs.length⟩, fin⟩
        | scr l =>
          cases e1
          obtain ⟨a, ev, f, _⟩ := r
          subst ev
          exact .inl ⟨_, _, rfl, .inl ⟨l.map V.int, f.elim (fun f => .inl (.inr f.1)) .inr, by rw [List.length_map]⟩, fin⟩
        | dct ks l =>
          cases e1
          obtain ⟨a, us, ev, f, hz, rs⟩ := r
          subst ev
          refine .inr ⟨a, _, rfl, f.1, ?_⟩
          have hl := rs.length
          rw [List.length_zip, List.length_map, ← hl, ← hz, Nat.min_self]
          exact fin
        | ref n =>
          obtain ⟨p, ep, ev⟩ := r
          subst ev
          obtain ⟨o, eo, ro⟩ := rh.pl ep
          have e1' : (match h[n]? with
            | some (.lst l) => some l.length
            | some (.dct ks _) => some ks.length
            | _ => none) = some _ := e1
          rw [eo] at e1'
          cases o with
          | lst l =>
            cases e1'
            obtain ⟨_, us, f, rs⟩ := ro
            exact .inl ⟨_, _, rfl, .inl ⟨us, .inl (.inl f), rs.length⟩, fin⟩
          | dct ks l =>
            cases e1'
            obtain ⟨_, us, f, hz, rs⟩ := ro
            refine .inr ⟨p.1, _, rfl, .inl f, ?_⟩
            have hl := rs.length
            rw [List.length_zip, List.length_map, ← hl, ← hz, Nat.min_self]
            exact fin
          | ins c l => cases e1'
        | _ => cases e1
theorem ol_abs : OpL K ca (fun xs H Q => ∃ i, xs = [.int i] ∧ Q (.int (if i < 0 then -i else i)) H) (biV .abs) := by
  intro φ h H xs z h' vs Q rh r0 e q
  cases xs with
  | nil => cases e
  | cons x l => cases l with
    | cons y l => cases x <;> cases e
    | nil =>
      obtain ⟨v, ev, r⟩ := RVs.one_of r0
      subst ev
      cases x with
      | int i =>
        cases e
        exact ⟨i, by rw [show v = .int i from r], q _ φ H Ext.refl rh rfl⟩
      | _ => cases e
theorem ol_int : OpL K ca (fun xs H Q => (∃ i, xs = [.int i] ∧ Q (.int i) H) ∨ ∃ k, xs = [.bl k] ∧ Q (.int (if k then 1 else 0)) H) (biV .int) := by
  intro φ h H xs z h' vs Q rh r0 e q
  cases xs with
  | nil => cases e
  | cons x l => cases l with
    | cons y l => cases x <;> cases e
    | nil =>
      obtain ⟨v, ev, r⟩ := RVs.one_of r0
      subst ev
      cases x with
      | int i =>
        cases e
        exact .inl ⟨i, by rw [show v = .int i from r], q _ φ H Ext.refl rh rfl⟩
      | bl i =>
        cases e
        exact .inr ⟨i, by rw [show v = .bl i from r], q _ φ H Ext.refl rh rfl⟩
      | _ => cases e
theorem ol_bool : OpL K ca (fun xs H Q => (∃ i, xs = [.int i] ∧ Q (.bl (i != 0)) H) ∨ ∃ k, xs = [.bl k] ∧ Q (.bl k) H) (biV .bool) := by
  intro φ h H xs z h' vs Q rh r0 e q
  cases xs with
  | nil => cases e
  | cons x l => cases l with
    | cons y l => cases x <;> cases e
    | nil =>
      obtain ⟨v, ev, r⟩ := RVs.one_of r0
      subst ev
      cases x with
      | bl i =>
        cases e
        exact .inr ⟨i, by rw [show v = .bl i from r], q _ φ H Ext.refl rh rfl⟩
      | _ => cases e
theorem ol_all : OpL K ca (rAll K) (biV .all) := by
  intro φ h H xs z h' vs Q rh r0 e q
  cases xs with
  | nil => cases e
  | cons x l => cases l with
    | cons y l => cases x <;> cases e
    | nil =>
      obtain ⟨v, ev, r⟩ := RVs.one_of r0
      subst ev
      cases x with
      | lst l =>
        have e' : (boolsV l).map (fun bs => (PV.bl (bs.all _root_.id), h)) = some (z, h') := e
        cases e1 : boolsV l with
        | none => rw [e1] at e'; cases e'
        | some bs =>
          rw [e1] at e'
          cases e'
          obtain ⟨a, us, ev, f, _, rs⟩ := r
          subst ev
          exact ⟨a, bs, rfl, by rw [← boolsV_vs e1 rs]; exact .inl (.inl f.1), q _ φ H Ext.refl rh rfl⟩
      | _ => cases e
theorem ol_any : OpL K ca (rAny K) (biV .any) := by
  intro φ h H xs z h' vs Q rh r0 e q
  cases xs with
  | nil => cases e
  | cons x l => cases l with
    | cons y l => cases x <;> cases e
    | nil =>
      obtain ⟨v, ev, r⟩ := RVs.one_of r0
      subst ev
      cases x with
      | lst l =>
        have e' : (boolsV l).map (fun bs => (PV.bl (bs.any _root_.id), h)) = some (z, h') := e
        cases e1 : boolsV l with
        | none => rw [e1] at e'; cases e'
        | some bs =>
          rw [e1] at e'
          cases e'
          obtain ⟨a, us, ev, f, _, rs⟩ := r
          subst ev
          exact ⟨a, bs, rfl, by rw [← boolsV_vs e1 rs]; exact .inl (.inl f.1), q _ φ H Ext.refl rh rfl⟩
      | _ => cases e
theorem ol_sum : OpL K ca (rSum K) (biV .sum) := by
  intro φ h H xs z h' vs Q rh r0 e q
  cases xs with
  | nil => cases e
  | cons x l => cases l with
    | cons y l => cases x <;> cases e
    | nil =>
      obtain ⟨v, ev, r⟩ := RVs.one_of r0
      subst ev
      cases x with
      | lst l =>
        have e' : (intsV l).map (fun bs => (PV.int bs.sum, h)) = some (z, h') := e
        cases e1 : intsV l with
        | none => rw [e1] at e'; cases e'
        | some bs =>
          rw [e1] at e'
          cases e'
          obtain ⟨a, us, ev, f, _, rs⟩ := r
          subst ev
          exact ⟨a, bs, rfl, by rw [← intsV_vs e1 rs]; exact .inl (.inl f.1), q _ φ H Ext.refl rh rfl⟩
      | _ => cases e
theorem ol_max : OpL K ca (fun xs H Q => rMax K xs H Q ∨ ∃ i j, xs = [.int i, .int j] ∧ Q (.int (if j > i then j else i)) H) (biV .max) := by
  intro φ h H xs z h' vs Q rh r0 e q
  cases xs with
  | nil => cases e
  | cons x l => cases l with
    | cons y l => cases l with
      | cons w l => cases x <;> cases y <;> cases e
      | nil =>
        obtain ⟨v, u, ev, r1, r2⟩ := RVs.two_of r0
        subst ev
        cases x with
        | int i => cases y with
          | int j =>
            cases e
            exact .inr ⟨i, j, by rw [show v = .int i from r1, show u = .int j from r2], q _ φ H Ext.refl rh rfl⟩
          | _ => cases e
        | _ => cases y <;> cases e
    | nil =>
      obtain ⟨v, ev, r⟩ := RVs.one_of r0
      subst ev
      cases x with
      | lst l =>
        have e' : (intsV l).bind (fun is => (maxL is).map fun i => (PV.int i, h)) = some (z, h') := e
        cases e1 : intsV l with
        | none => rw [e1] at e'; cases e'
        | some bs =>
          rw [e1] at e'
          obtain ⟨a, us, ev, f, _, rs⟩ := r
          subst ev
          cases bs with
          | nil => cases e'
          | cons i bs =>
            cases e'
            obtain ⟨g1, g2⟩ := foldl_max bs i
            refine .inl ⟨a, i :: bs, rfl, by rw [← intsV_vs e1 rs]; exact .inl (.inl f.1), by simp, fun m hm hall => ?_⟩
            have : m = bs.foldl (fun a b => if b > a then b else a) i := Int.le_antisymm (g2 m hm) (hall _ g1)
            rw [this]
            exact q _ φ H Ext.refl rh rfl
      | _ => cases e
theorem ol_min : OpL K ca (fun xs H Q => rMin K xs H Q ∨ ∃ i j, xs = [.int i, .int j] ∧ Q (.int (if j < i then j else i)) H) (biV .min) := by
  intro φ h H xs z h' vs Q rh r0 e q
  cases xs with
  | nil => cases e
  | cons x l => cases l with
    | cons y l => cases l with
      | cons w l => cases x <;> cases y <;> cases e
      | nil =>
        obtain ⟨v, u, ev, r1, r2⟩ := RVs.two_of r0
        subst ev
        cases x with
        | int i => cases y with
          | int j =>
            cases e
            exact .inr ⟨i, j, by rw [show v = .int i from r1, show u = .int j from r2], q _ φ H Ext.refl rh rfl⟩
          | _ => cases e
        | _ => cases y <;> cases e
    | nil =>
      obtain ⟨v, ev, r⟩ := RVs.one_of r0
      subst ev
      cases x with
      | lst l =>
        have e' : (intsV l).bind (fun is => (minL is).map fun i => (PV.int i, h)) = some (z, h') := e
        cases e1 : intsV l with
        | none => rw [e1] at e'; cases e'
        | some bs =>
          rw [e1] at e'
          obtain ⟨a, us, ev, f, _, rs⟩ := r
          subst ev
          cases bs with
          | nil => cases e'
          | cons i bs =>
            cases e'
            obtain ⟨g1, g2⟩ := foldl_min bs i
            refine .inl ⟨a, i :: bs, rfl, by rw [← intsV_vs e1 rs]; exact .inl (.inl f.1), by simp, fun m hm hall => ?_⟩
            have : m = bs.foldl (fun a b => if b < a then b else a) i := Int.le_antisymm (hall _ g1) (g2 m hm)
            rw [this]
            exact q _ φ H Ext.refl rh rfl
      | _ => cases e
end
end Lt

set_option maxRecDepth 100000
namespace Lt
open PySem PySem.Spec L2
section
variable {K : PySem.W.Frag} {ca : CA} {φ : Pl} {h : PH} {H : Hp}
theorem keysL_vs : ∀ {ks : List DK} {l : List PV} {vs : List V}, ks.length = l.length → ksOk ks = true → RVs K ca φ H l vs → RVs K ca φ H (keysL ks) (((ks.map dk).zip vs).map fun kv => kV kv.1)
  | [], [], vs, _, _, r => by
    have e : vs = [] := r
    subst e
    exact rfl
  | k :: ks, x :: l, vs, z, c, r => by
    obtain ⟨v, us, ev, r1, r2⟩ := r
    subst ev
    have c' : (kOk k && ksOk ks) = true := c
    rw [Bool.and_eq_true] at c'
    have hk : RV K ca φ H (kPV k) (kV (dk k)) := rv_kPV c'.1
    refine ⟨kV (dk k), _, rfl, ?_, keysL_vs (show ks.length = l.length by simpa using z) c'.2 r2⟩
    cases k <;> exact hk
theorem wf_stripV {x cs : Tx} : (stripV x cs).length ≤ x.length ∧ ∀ c ∈ stripV x cs, c ∈ x := by
  unfold stripV Txt.stripChars Txt.stripBy
  split
  · exact ⟨Nat.le_refl _, fun c hc => hc⟩
  · unfold stripped Builtin.Str.strSub
    simp only [Array.toList_extract, sx]
    refine ⟨?_, fun c hc => ?_⟩
    · simp only [List.extract_eq_take_drop, List.length_take, List.length_drop]
      omega
    · simp only [List.extract_eq_take_drop] at hc
      exact List.mem_of_mem_drop (List.mem_of_mem_take hc)
theorem sx_toList (x : Tx) (z : Str) (e : z.cps.toList = x) : sx x = z := by
  subst e
  cases z with
  | mk a => simp [sx]
end
section
variable {K : PySem.W.Frag} {ca : CA}
def rListX (K : PySem.W.Frag) : List V → Hp → VK → Prop := fun xs H Q => (∃ p ys, xs = [.ref p] ∧ (SqL K H p ys ∨ SqT K H p ys) ∧ ∀ l, H l = none → Q (.ref l) (upd H l (.lst ys))) ∨
  ∃ (a : Addr) (kvs : List (Key × V)), xs = [.ref a] ∧ Rd H a (.dK kvs) ∧ ∀ p, H p = none → Q (.ref p) (upd H p (.lst (kvs.map fun kv => kV kv.1)))
theorem cr_listX {X : Cx} (hc : X.calm = true) : CallR X (.type "list") (rListX X.K) := CallR.or call_list_of (call_listD hc)
/-- list(..) of data -/
def listV (al : Bool) (l : List PV) (h : PH) : M PV :=
  match l with
  | [.tup l] => newL al l h
  | [.lst l] => newL al l h
  | [.dct ks _] => if ksOk ks = true ∧ ks.length ≤ sizeLine then newL al (keysL ks) h else none
  | [.ref n] => match h[n]? with
    | some (.lst l) => newL al l h
    | _ => none
  | _ => none
theorem ol_list {al : Bool} : OpL K ca (rListX K) (listV al) := by
  intro φ h H xs z h' vs Q rh r0 e q
  cases xs with
  | nil => cases e
  | cons x l => cases l with
    | cons y l => cases x <;> cases e
    | nil =>
      obtain ⟨v, ev, r⟩ := RVs.one_of r0
      subst ev
      cases x with
      | lst l =>
        obtain ⟨a, us, ev, f, hz, rs⟩ := r
        subst ev
        exact .inl ⟨a, us, rfl, .inl (.inl (.inl f.1)), fun p hp => new_L rh rs hz e q p hp⟩
      | tup l =>
        obtain ⟨a, us, ev, f, hz, rs⟩ := r
        subst ev
        exact .inl ⟨a, us, rfl, .inr (SqT_of f), fun p hp => new_L rh rs hz e q p hp⟩
      | dct ks l =>
        obtain ⟨a, us, ev, f, hz, rs⟩ := r
        subst ev
        have e' : (if ksOk ks = true ∧ ks.length ≤ sizeLine then newL al (keysL ks) h else none) = some (z, h') := e
        split at e'
        · rename_i c
          refine .inr ⟨a, _, rfl, f.1, fun p hp => new_L rh (keysL_vs hz c.1 rs) ?_ e' q p hp⟩
          unfold keysL
          rw [List.length_map]
          exact c.2
        · cases e'
      | ref n =>
        obtain ⟨p, ep, ev⟩ := r
        subst ev
        obtain ⟨o, eo, ro⟩ := rh.pl ep
        have e' : (match h[n]? with
          | some (.lst l) => newL al l h
          | _ => none) = some (z, h') := e
        rw [eo] at e'
        cases o with
        | lst l =>
          obtain ⟨⟨_, hz⟩, us, f, rs⟩ := ro
          exact .inl ⟨p.1, us, rfl, .inl (.inl (.inl f)), fun p hp => new_L rh rs hz e' q p hp⟩
        | _ => cases e'
      | _ => cases e
def rTupX (K : PySem.W.Frag) : List V → Hp → VK → Prop := fun xs H Q => ∃ p ys, xs = [.ref p] ∧ ((SqL K H p ys ∧ ∀ l, H l = none → Q (.ref l) (upd H l (.tup ys))) ∨ (SqT K H p ys ∧ Q (.ref p) H))
theorem ol_tuple : OpL K ca (rTupX K) (biV .tuple) := by
  intro φ h H xs z h' vs Q rh r0 e q
  cases xs with
  | nil => cases e
  | cons x l => cases l with
    | cons y l => cases x <;> cases e
    | nil =>
      obtain ⟨v, ev, r⟩ := RVs.one_of r0
      subst ev
      cases x with
      | lst l =>
        cases e
        obtain ⟨a, us, ev, f, hz, rs⟩ := r
        subst ev
        exact ⟨a, us, rfl, .inl ⟨.inl (.inl f.1), fun p hp => new_tup rh rs hz q p hp⟩⟩
      | tup l =>
        cases e
        obtain ⟨a, us, ev, f, hz, rs⟩ := id r
        subst ev
        exact ⟨a, us, rfl, .inr ⟨SqT_of f, q _ φ H Ext.refl rh r⟩⟩
      | ref n =>
        obtain ⟨p, ep, ev⟩ := r
        subst ev
        obtain ⟨o, eo, ro⟩ := rh.pl ep
        have e' : (match h[n]? with
          | some (.lst l) => some (PV.tup l, h)
          | _ => none) = some (z, h') := e
        rw [eo] at e'
        cases o with
        | lst l =>
          cases e'
          obtain ⟨⟨_, hz⟩, us, f, rs⟩ := ro
          exact ⟨p.1, us, rfl, .inl ⟨.inl (.inl f), fun p hp => new_tup rh rs hz q p hp⟩⟩
        | _ => cases e'
      | _ => cases e
end
theorem t_bm {K : PySem.W.Frag} {ca : CA} {T : String} {r : V → List V → Hp → VK → Prop} {mt : Me} {mo : Sl → PH → M PV} {m : Sl → PH → M (List PV)}
    (ty : ∀ φ h H x v, RH K ca φ h H → RV K ca φ H x v → rcvV mt x h = true → L2.tyV K T v H)
    (od : ∀ φ h H x v xs vs z h' Q, RH K ca φ h H → RV K ca φ H x v → RVs K ca φ H xs vs → meV mt x xs h = some (z, h') → Pst K ca φ H z h' Q → r v vs H Q)
    (σ : St) (H : Hp) (Q : VK) (q : tD K ca (fun s h => bd (mo s h) fun x h => ib (rcvV mt x h) (bd (m s h) fun vs h => meV mt x vs h) none) σ H Q) : tBM K T r (tD K ca mo) (tDA K ca m) σ H Q := by
  obtain ⟨φ, s, h, x, h', rs, rh, e, q⟩ := q
  obtain ⟨o, h1, e1, e⟩ := bd_eq e
  cases c : rcvV mt o h1 with
  | false => rw [c] at e; cases e
  | true =>
    rw [c] at e
    obtain ⟨xs, h2, e2, e⟩ := bd_eq (show (bd (m s h1) fun vs h => meV mt o vs h) = some (x, h') from e)
    refine ⟨φ, s, h, o, h1, rs, rh, e1, fun v φ1 H1 y1 rh1 r1 => ⟨ty _ _ _ _ _ rh1 r1 c, φ1, s, h1, xs, h2, rs.ext y1.toExt0, rh1, e2, fun vs φ2 H2 y2 rh2 r2 => ?_⟩⟩
    exact od _ _ _ _ _ _ _ _ _ _ rh2 (RV.ext y2.toExt0 _ _ r1) r2 e fun w φ3 H3 y3 rh3 r3 => q w φ3 H3 ((y1.trans y2).trans y3) rh3 r3
section
variable {K : PySem.W.Frag} {ca : CA} {φ : Pl} {h h' : PH} {H : Hp} {x z : PV} {v : V} {xs : List PV} {vs : List V} {Q : VK}
theorem ty_list {mt : Me} (hm : mt = .append ∨ mt = .extend ∨ mt = .pop ∨ mt = .popAt) (φ : Pl) (h : PH) (H : Hp) (x : PV) (v : V) (rh : RH K ca φ h H) (r : RV K ca φ H x v) (c : rcvV mt x h = true) : L2.tyV K "list" v H := by
  have key : ∃ n l, x = .ref n ∧ h[n]? = some (.lst l) := by
    rcases hm with e | e | e | e <;> subst e <;> (
      cases x with
      | ref n =>
        have c' : (match h[n]? with
          | some (.lst _) => true
          | _ => false) = true := c
        cases eo : h[n]? with
        | none => rw [eo] at c'; cases c'
        | some o => cases o with
          | lst l => exact ⟨n, l, rfl, eo⟩
          | _ => rw [eo] at c'; cases c'
      | _ => cases c)
  obtain ⟨n, l, ex, eo⟩ := key
  subst ex
  obtain ⟨p, ep, ev⟩ := r
  subst ev
  obtain ⟨o, eo2, ro⟩ := rh.pl ep
  rw [eo] at eo2
  cases eo2
  obtain ⟨_, us, f, rs⟩ := ro
  exact .inl ⟨rfl, us, .inl (.inl f)⟩
/-- a place written with a list -/
theorem write_lst {n : Nat} {p : Addr × Addr} {l : List PV} {us : List V} (rh : RH K ca φ h H) (ep : φ.l[n]? = some p) (e2 : p.2 = p.1) (hz : l.length ≤ sizeLine) (rs : RVs K ca φ H l us) :
    Ext φ H φ (upd H p.1 (.lst us)) ∧ RH K ca φ (h.set n (.lst l)) (upd H p.1 (.lst us)) := by
  have kp : ∀ b, b ≠ p.1 → b ≠ p.2 → upd H p.1 (HO.lst us) b = H b := fun b h1 _ => upd_ne h1
  have x := rh.changes ep kp
  exact ⟨x, rh.change ep kp ⟨⟨e2, hz⟩, us, upd_same, RVs.ext x.toExt0 _ _ rs⟩⟩
theorem od_append (φ : Pl) (h : PH) (H : Hp) (x : PV) (v : V) (xs : List PV) (vs : List V) (z : PV) (h' : PH) (Q : VK) (rh : RH K ca φ h H) (r : RV K ca φ H x v) (rl : RVs K ca φ H xs vs) (e : meV .append x xs h = some (z, h')) (q : Pst K ca φ H z h' Q) : rAppend v vs H Q := by
  cases x with
  | ref n => cases xs with
    | nil => cases e
    | cons y l => cases l with
      | cons _ _ => cases e
      | nil =>
        obtain ⟨u, ev, ru⟩ := RVs.one_of rl
        subst ev
        obtain ⟨p, ep, ev⟩ := r
        subst ev
        obtain ⟨o, eo, ro⟩ := rh.pl ep
        have e' : (match h[n]? with
          | some (.lst l) => if l.length < sizeLine then some (PV.non, h.set n (.lst (l ++ [y]))) else none
          | _ => none) = some (z, h') := e
        rw [eo] at e'
        cases o with
        | lst l =>
          obtain ⟨⟨e2, hz⟩, us, f, rs⟩ := ro
          have e' : (if l.length < sizeLine then some (PV.non, h.set n (.lst (l ++ [y]))) else none) = some (z, h') := e'
          split at e'
          · rename_i hl
            cases e'
            obtain ⟨x1, rh1⟩ := write_lst (l := l ++ [y]) (us := us ++ [u]) rh ep e2 (by rw [List.length_append]; exact hl) (rs.append (RVs.one ru))
            exact ⟨p.1, us, u, rfl, rfl, f, by rw [← rs.length]; exact hl, q _ φ _ x1 rh1 rfl⟩
          · cases e'
        | _ => cases e'
  | _ => cases e
theorem od_pop (φ : Pl) (h : PH) (H : Hp) (x : PV) (v : V) (xs : List PV) (vs : List V) (z : PV) (h' : PH) (Q : VK) (rh : RH K ca φ h H) (r : RV K ca φ H x v) (rl : RVs K ca φ H xs vs) (e : meV .pop x xs h = some (z, h')) (q : Pst K ca φ H z h' Q) : rPop v vs H Q := by
  cases x with
  | ref n => cases xs with
    | cons _ _ => cases e
    | nil =>
      have ev : vs = [] := rl
      subst ev
      obtain ⟨p, ep, ev⟩ := r
      subst ev
      obtain ⟨o, eo, ro⟩ := rh.pl ep
      have e' : (match h[n]? with
        | some (.lst l) => (l[l.length - 1]?).map fun x => (x, h.set n (.lst l.dropLast))
        | _ => none) = some (z, h') := e
      rw [eo] at e'
      cases o with
      | lst l =>
        obtain ⟨⟨e2, hz⟩, us, f, rs⟩ := ro
        have e' : ((l[l.length - 1]?).map fun x => (x, h.set n (.lst l.dropLast))) = some (z, h') := e'
        cases ey : l[l.length - 1]? with
        | none => rw [ey] at e'; cases e'
        | some y =>
          rw [ey] at e'
          cases e'
          obtain ⟨u, eu, ru⟩ := rs.get ey
          have rd : RVs K ca φ H l.dropLast us.dropLast := by
            rw [List.dropLast_eq_take, List.dropLast_eq_take, ← rs.length]
            exact rs.take _
          obtain ⟨x1, rh1⟩ := write_lst (l := l.dropLast) (us := us.dropLast) rh ep e2 (by rw [List.length_dropLast]; omega) rd
          exact ⟨p.1, us, u, rfl, rfl, f, by rw [← rs.length]; exact eu, q _ φ _ x1 rh1 (RV.ext x1.toExt0 _ _ ru)⟩
      | _ => cases e'
  | _ => cases e
theorem RVs.eraseIdx : ∀ {l : List PV} {us : List V} (i : Nat), RVs K ca φ H l us → RVs K ca φ H (l.eraseIdx i) (us.eraseIdx i)
  | [], us, i, r => by
    have e : us = [] := r
    subst e
    exact rfl
  | d :: l, us, 0, r => by
    obtain ⟨v, w, e1, h1, h2⟩ := r
    subst e1
    exact h2
  | d :: l, us, i + 1, r => by
    obtain ⟨v, w, e1, h1, h2⟩ := r
    subst e1
    exact ⟨v, w.eraseIdx i, rfl, h1, RVs.eraseIdx i h2⟩
theorem ixN_seq {i : Int} {n j : Nat} (e : ixN' n i = some j) : seqIndex? i n = some j := by
  unfold ixN' at e
  unfold seqIndex?
  split at e
  · rename_i h0
    split at e
    · rename_i h1
      cases e
      have h2 : ¬ i < 0 := by omega
      simp only [h2, if_false]
      rw [if_pos (by simp; omega)]
    · cases e
  · rename_i h0
    split at e
    · rename_i h1
      cases e
      have h2 : i < 0 := by omega
      simp only [h2, if_true]
      rw [if_pos (by simp; omega)]
    · cases e
theorem od_popAt (φ : Pl) (h : PH) (H : Hp) (x : PV) (v : V) (xs : List PV) (vs : List V) (z : PV) (h' : PH) (Q : VK) (rh : RH K ca φ h H) (r : RV K ca φ H x v) (rl : RVs K ca φ H xs vs) (e : meV .popAt x xs h = some (z, h')) (q : Pst K ca φ H z h' Q) : rPopAt v vs H Q := by
  cases x with
  | ref n => cases xs with
    | nil => cases e
    | cons y l => cases l with
      | cons _ _ => cases y <;> cases e
      | nil => cases y with
        | int i =>
          obtain ⟨u, ev, ru⟩ := RVs.one_of rl
          subst ev
          obtain ⟨p, ep, ev⟩ := r
          subst ev
          obtain ⟨o, eo, ro⟩ := rh.pl ep
          have e' : (match h[n]? with
            | some (.lst l) => (ixN' l.length i).bind fun j => (l[j]?).map fun x => (x, h.set n (.lst (l.eraseIdx j)))
            | _ => none) = some (z, h') := e
          rw [eo] at e'
          cases o with
          | lst l =>
            obtain ⟨⟨e2, hz⟩, us, f, rs⟩ := ro
            have e' : ((ixN' l.length i).bind fun j => (l[j]?).map fun x => (x, h.set n (.lst (l.eraseIdx j)))) = some (z, h') := e'
            cases ei : ixN' l.length i with
            | none => rw [ei] at e'; cases e'
            | some j =>
              rw [ei] at e'
              have e' : ((l[j]?).map fun x => (x, h.set n (.lst (l.eraseIdx j)))) = some (z, h') := e'
              cases ey : l[j]? with
              | none => rw [ey] at e'; cases e'
              | some y =>
                rw [ey] at e'
                cases e'
                obtain ⟨u', eu, ru'⟩ := rs.get ey
                have hzl := hz
                rw [sizeLine_eq] at hzl
                have bnd : -(16777216 : Int) ≤ i ∧ i < 16777216 := by
                  unfold ixN' at ei
                  split at ei
                  · split at ei
                    · omega
                    · cases ei
                  · split at ei
                    · omega
                    · cases ei
                obtain ⟨x1, rh1⟩ := write_lst (l := l.eraseIdx j) (us := us.eraseIdx j) rh ep e2 (by rw [List.length_eraseIdx]; split <;> omega) (rs.eraseIdx j)
                refine ⟨p.1, us, i, j, u', rfl, by rw [show u = .int i from ru], f, by omega, by omega, by rw [← rs.length]; exact ixN_seq ei, eu, q _ φ _ x1 rh1 (RV.ext x1.toExt0 _ _ ru')⟩
          | _ => cases e'
        | _ => cases e
  | _ => cases e
theorem ty_str {mt : Me} (hm : mt = .strip) (φ : Pl) (h : PH) (H : Hp) (x : PV) (v : V) (rh : RH K ca φ h H) (r : RV K ca φ H x v) (c : rcvV mt x h = true) : L2.tyV K "str" v H := by
  subst hm
  cases x with
  | str t =>
    rw [show v = .str (sx t) from r.1]
    rfl
  | _ => cases c
theorem od_strip (φ : Pl) (h : PH) (H : Hp) (x : PV) (v : V) (xs : List PV) (vs : List V) (z : PV) (h' : PH) (Q : VK) (rh : RH K ca φ h H) (r : RV K ca φ H x v) (rl : RVs K ca φ H xs vs) (e : meV .strip x xs h = some (z, h')) (q : Pst K ca φ H z h' Q) :
    (fun (x : V) (xs : List V) (H : Hp) (Q : VK) => ∃ a b, x = .str a ∧ xs = [.str b] ∧ a.length ≤ sizeLine ∧ Q (.str (Txt.stripChars a b)) H) v vs H Q := by
  cases x with
  | str t => cases xs with
    | nil => cases e
    | cons y l => cases l with
      | cons _ _ => cases y <;> cases e
      | nil => cases y with
        | str cs =>
          cases e
          obtain ⟨u, ev, ru⟩ := RVs.one_of rl
          subst ev
          obtain ⟨w1, w2⟩ := wf_stripV (x := t) (cs := cs)
          refine ⟨sx t, sx cs, r.1, by rw [show u = .str (sx cs) from ru.1], by rw [sx_length]; exact r.2.1, q _ φ H Ext.refl rh ⟨?_, by have := r.2.1; omega, ?_⟩⟩
          · rw [sx_toList (stripV t cs) (Txt.stripChars (sx t) (sx cs)) rfl]
          · exact List.all_eq_true.mpr fun c hc => List.all_eq_true.mp r.2.2 c (w2 c hc)
        | _ => cases e
  | _ => cases e
end
section
variable {X : Cx} {ca : CA} {o e : Expr} {es : List Expr} {apos cpos : Pos} {mo : Sl → PH → M PV} {m : Sl → PH → M (List PV)}
/-- what a method's call must be like -/
structure MeOk (X : Cx) (o : Expr) (name : Str) (apos : Pos) (e : Expr) (es : List Expr) (cpos : Pos) : Prop where
  base : attributeBase o name X.env (eval o X.env) = eval o X.env
  few : ((backTo cpos (starEach (e :: es) X.env)).all (fun x => !x.1) && (backToKw cpos (keywordEach [] X.env)).all (fun x => x.1.isSome)
      && decide ((e :: es).length + ([] : List Keyword).length + (if ([] : List Keyword).isEmpty then 0 else 1) < 30)) = true
  line : (apos.endLine == cpos.line) = true
  star : starEach (e :: es) X.env = (false, eval e X.env) :: starEach es X.env
  plain : (backTo cpos (starEach es X.env)).any (·.1) = false
theorem d_append (ho : PE X o (tD X.K ca mo)) (ha : PA X (e :: es) (tDA X.K ca m)) (k : MeOk X o "append" apos e es cpos) :
    PE X (.Call (.Attribute o "append" apos) (e :: es) [] cpos) (tD X.K ca fun s h => bd (mo s h) fun x h => ib (rcvV .append x h) (bd (m s h) fun vs h => meV .append x vs h) none) :=
  wkE (pe_bm PySem.F.plainAttrs_list PySem.F.slot_list_append PySem.F.type_list_append mt_append ho ha k.base k.few k.line k.star k.plain) (t_bm (ty_list (.inl rfl)) od_append)
theorem d_popAt (ho : PE X o (tD X.K ca mo)) (ha : PA X (e :: es) (tDA X.K ca m)) (k : MeOk X o "pop" apos e es cpos) :
    PE X (.Call (.Attribute o "pop" apos) (e :: es) [] cpos) (tD X.K ca fun s h => bd (mo s h) fun x h => ib (rcvV .popAt x h) (bd (m s h) fun vs h => meV .popAt x vs h) none) :=
  wkE (pe_bm PySem.F.plainAttrs_list PySem.F.slot_list_pop PySem.F.type_list_pop mt_popAt ho ha k.base k.few k.line k.star k.plain) (t_bm (ty_list (.inr (.inr (.inr rfl)))) od_popAt)
theorem d_strip (ho : PE X o (tD X.K ca mo)) (ha : PA X (e :: es) (tDA X.K ca m)) (k : MeOk X o "strip" apos e es cpos) :
    PE X (.Call (.Attribute o "strip" apos) (e :: es) [] cpos) (tD X.K ca fun s h => bd (mo s h) fun x h => ib (rcvV .strip x h) (bd (m s h) fun vs h => meV .strip x vs h) none) :=
  wkE (pe_bm PySem.F.plainAttrs_str PySem.F.slot_str_strip PySem.F.type_str_strip mt_stripChars ho ha k.base k.few k.line k.star k.plain) (t_bm (ty_str rfl) od_strip)
end
end Lt

set_option maxRecDepth 100000
namespace Lt
open PySem PySem.Spec L2
section
variable {prog : Program} {w : World} {A : Around} {E : Value → Shared → Prop} {s : Shared}
/-- a dict's entry put (lines of PyProof/DictUpdate turned) -/
theorem dictPut_pairs {K : Type} [DecidableEq K] {knd : KeyKind prog w K} {d : Addr} {kvs : List (K × Value)} {k : K} {key v : Value} {Q : Unit → Shared → Prop} (hkey : knd.is k key = true) (hm : s.heap.DictOf knd d kvs)
    (hQ : ∀ h', h'.DictOf knd d (stored kvs k v) → Heap.SameBut d s.heap h' → Q () { s with heap := h' })
    (hsz : kvs.length ≤ sizeLine) : wpAny (model prog w) A (dictPut d (knd.hash k) key v) Q E s := by
  obtain ⟨o, es, ep, ho, hc, hd, hk, hp, hn⟩ := hm
  have hes : es.size ≤ sizeLine := by
    have e1 := hp.length
    have e2 : es.toList.length = es.size := by simp
    omega
  unfold dictPut
  refine wpAny_bind (wpAny_dictFind_of hkey ho hd hk ?_)
  have hidx : (es.findIdx? fun e => knd.is k e.key) = kvs.findIdx? fun kv => decide (kv.1 = k) := by
    rw [← hp.findIdx k]; obtain ⟨l⟩ := es; simp
  cases hi : es.findIdx? fun e => knd.is k e.key with
  | some i =>
    refine wpAny_updateDict ho hd (hQ _ ⟨_, _, ep, Heap.get?_update_self _ ho (Obj.isFreed_of_dict (Obj.data_mapDict hd _)),
      hc.mapDict _, Obj.data_mapDict hd _, hk.modify _ _, ?_, ?_⟩ (Heap.SameBut.update ..))
    · rw [stored, if_pos (any_of_findIdx_some (hidx ▸ hi))]
      have hl : (es.toList.findIdx? fun e => knd.is k e.key) = some i := by rw [← hi]; obtain ⟨l⟩ := es; simp
      have := hp.modify hn hl v
      obtain ⟨l⟩ := es
      simpa using this
    · rw [stored, if_pos (any_of_findIdx_some (hidx ▸ hi)), keys_map_store]; exact hn
  | none =>
    have hnot : k ∉ kvs.map (·.1) := not_mem_of_findIdx_none (hidx ▸ hi)
    have hany : ¬ (kvs.any fun kv => decide (kv.1 = k)) = true := by
      rw [List.any_eq_true]; rintro ⟨kv, hkv, he⟩
      exact hnot (List.mem_map.mpr ⟨kv, hkv, of_decide_eq_true he⟩)
    refine wpAny_updateDictKeys (hz := hes) ho hd (hQ _ ⟨_, _, ep + 1, Heap.get?_update_self _ ho (Obj.isFreed_of_dict (Obj.data_mapDictKeys hd _)),
      hc.mapDictKeys _, Obj.data_mapDictKeys hd _, hk.push hkey _, ?_, ?_⟩ (Heap.SameBut.update ..))
    · rw [stored, if_neg hany]
      have := hp.append hkey (knd.hash k) v
      obtain ⟨l⟩ := es
      simpa using this
    · rw [stored, if_neg hany, List.map_append, List.nodup_append]
      refine ⟨hn, by simp, ?_⟩
      intro a ha b hb
      simp only [List.map_cons, List.map_nil, List.mem_singleton] at hb
      subst hb
      exact fun e => hnot (e ▸ ha)
/-- one dict put behind another -/
theorem mergeMapping_ok {d o : Addr} {kvs more : List (Key × Value)} {Q : Unit → Shared → Prop} (hdo : d ≠ o) (hoS : (o == sysModules) = false)
    (hd : s.heap.DictOf (mixKind prog w) d kvs) (ho : s.heap.DictOf (mixKind prog w) o more) (hsz : kvs.length + more.length ≤ sizeLine)
    (hQ : ∀ h', h'.DictOf (mixKind prog w) d (merged kvs more) → Heap.SameBut d s.heap h' → Q () { s with heap := h' }) :
    wpAny (model prog w) A (mergeMapping d (.ref o) false) Q E s := by
  obtain ⟨od, esd, epd, hod, hcd, hdd, hkd, hpd, hnd⟩ := id hd
  obtain ⟨oo, eso, epo, hoo, hco, hdo', hko, hpo, hno⟩ := id ho
  have hT : s.TypeIs (.ref o) "dict" := ⟨oo, hoo, hco.1⟩
  have hlen : more.length = eso.size := by rw [← hpo.length]; simp
  unfold mergeMapping
  refine wpAny_bind (wpAny_isInstance hT PySem.F.sub_dict_dict ?_)
  rw [if_pos rfl]
  refine wpAny_bind (wpAny_specialOf hT F.slot_dict_iter.lookup ?_)
  rw [show ((some (Value.builtin "dict.__iter__")) == some (Value.builtin "dict.__iter__")) = true from by decide]
  refine wpAny_bind (wpAny_pure ?_)
  dsimp only
  rw [if_neg (by rw [hoS]; exact Bool.false_ne_true)]
  refine wpAny_bind (wpAny_dictEntries hod hdd ?_)
  have loop : wpAny (model prog w) A (do
      let l ← dictEntries o
      let epoch ← dictEpoch o
      forIn (List.range l.size) PUnit.unit fun i (_ : PUnit) => (do
          let l' ← dictEntries o
          match l'[i]? with
            | some e => do
              holding [e.key, e.val] (dictPut d e.hash e.key e.val)
              let ep' ← dictEpoch o
              if (ep' != epoch) = true then do
                  (unsupported "dict.changed-during-merge" : Sem PUnit)
                  pure (ForInStep.yield PUnit.unit)
                else pure (ForInStep.yield PUnit.unit)
            | _ => do
              (unsupported "dict.changed-during-merge" : Sem PUnit)
              pure (ForInStep.yield PUnit.unit) : Sem (ForInStep PUnit))
      pure ()) Q E s := by
    refine wpAny_bind (wpAny_dictEntries hoo hdo' ?_)
    refine wpAny_bind (wpAny_dictEpoch hoo hdo' ?_)
    refine wpAny_bind ?_
    rw [List.range_eq_range']
    refine wpAny_forIn_list _
      (fun rest _ s' => ∃ h' i, s' = { s with heap := h' } ∧ rest = List.range' i (eso.size - i) ∧ i ≤ eso.size ∧ h'.DictOf (mixKind prog w) d (merged kvs (more.take i)) ∧ h'.get? o = some oo ∧ Heap.SameBut d s.heap h')
      _ ?_ ?_ _ _ ⟨s.heap, 0, rfl, by simp, Nat.zero_le _, by simpa [merged] using hd, hoo, Heap.SameBut.refl _ _⟩
    · rintro x rest b s' ⟨h', i, rfl, hr, hi, hd', hoo', hs'⟩
      have hlt : i < eso.size := by
        rcases Nat.lt_or_ge i eso.size with h | h
        · exact h
        · rw [Nat.sub_eq_zero_of_le h] at hr; simp at hr
      obtain ⟨rfl, hrest⟩ : x = i ∧ rest = List.range' (i + 1) (eso.size - (i + 1)) := by
        have e : eso.size - i = (eso.size - (i + 1)) + 1 := by omega
        rw [e, List.range'_succ] at hr
        injection hr with h1 h2
        exact ⟨h1, h2⟩
      refine wpAny_bind (wpAny_dictEntries hoo' hdo' ?_)
      rw [Array.getElem?_eq_getElem hlt]
      obtain ⟨kv, hkv⟩ : ∃ kv, more[x]? = some kv := ⟨more[x]'(by rw [hlen]; exact hlt), List.getElem?_eq_getElem _⟩
      obtain ⟨k, v⟩ := kv
      obtain ⟨hkey, hval⟩ := hpo.get? (e := eso[x]) (by simp [hlt]) hkv
      obtain ⟨k', hkey', hhash⟩ := hko eso[x] (Array.getElem_mem hlt)
      obtain rfl : k' = k := (mixKind prog w).inj _ _ _ hkey' hkey
      show wpAny _ _ (holding [eso[x].key, eso[x].val] (dictPut d eso[x].hash eso[x].key eso[x].val) >>= _) _ _ _
      rw [hhash, hval]
      have hmx : (merged kvs (more.take x)).length ≤ sizeLine := by
        have e1 := merged_length_le kvs (more.take x)
        have e2 : (more.take x).length ≤ more.length := by rw [List.length_take]; omega
        omega
      refine wpAny_bind (wpAny_holding (dictPut_pairs (hsz := hmx) hkey hd' fun h'' hd'' hs'' => ?_))
      have hoo'' : h''.get? o = some oo := (hs''.2 o (Ne.symm hdo)).trans hoo'
      refine wpAny_bind (wpAny_dictEpoch hoo'' hdo' ?_)
      rw [if_neg (by simp)]
      exact wpAny_pure ⟨h'', x + 1, rfl, hrest, hlt, by rw [merged_take_succ kvs more x (k', v) hkv]; exact hd'', hoo'', hs'.trans hs''⟩
    · rintro b s' ⟨h', i, rfl, hr, hi, hd', hoo', hs'⟩
      have hin : i = eso.size := by
        rcases Nat.lt_or_ge i eso.size with h | h
        · have e : eso.size - i = (eso.size - (i + 1)) + 1 := by omega
          rw [e, List.range'_succ] at hr; exact nomatch hr
        · exact Nat.le_antisymm hi h
      refine wpAny_pure (hQ h' ?_ hs')
      rw [hin, ← hlen, List.take_length] at hd'; exact hd'
  split
  · refine wpAny_bind (wpAny_dictEntries hoo hdo' ?_)
    refine wpAny_bind ?_
    rw [← Array.forIn_toList]
    refine wpAny_mono (wpAny_forIn_list _ (fun rest _ s' => s' = s ∧ ∀ e ∈ rest, e ∈ eso.toList) (fun _ s' => s' = s) ?turn (fun b s' h => h.1) _ _ ⟨rfl, fun e he => he⟩) (fun _ s' e => ?fin) fun _ _ e => e
    case turn =>
      rintro x rest b s' ⟨rfl, hm⟩
      obtain ⟨k, hk, _⟩ := hko x (by simpa using hm x List.mem_cons_self)
      rcases keyIs_shape hk with ⟨i, t, _, e⟩ | ⟨y, t, _, e⟩
      · rw [e]
        exact wpAny_pure ⟨rfl, fun e he => hm e (List.mem_cons_of_mem _ he)⟩
      · rw [e]
        exact wpAny_pure ⟨rfl, fun e he => hm e (List.mem_cons_of_mem _ he)⟩
    case fin =>
      subst e
      exact loop
  · exact loop
/-- {**a, **b, ..}: the trees -/
theorem display_stars {ts : List (Sem Value)} {Q : Value → Shared → Prop} (J : List (Sem Value) → Option Addr → Shared → Prop) (h0 : J ts none s)
    (turn : ∀ t rest main s, J (t :: rest) main s → ∃ d s0, ((main = some d ∧ s0 = s) ∨ (main = none ∧ d = s.heap.objs.size ∧ s0 = { s with heap := s.heap.push { cls := .type "dict", data := .dict #[] } })) ∧
      wpAny (model prog w) A t (fun m s1 => wpAny (model prog w) A (mergeMapping d m false) (fun _ s2 => J rest (some d) s2) (fun _ _ => False) s1) E s0)
    (fin : ∀ main s, J [] main s → ∃ d, main = some d ∧ Q (.ref d) s) : wpAny (model prog w) A (dictDisplay (ts.map fun t => (none, t))) Q E s := by
  unfold dictDisplay
  refine wpAny_bind ?_
  refine wpAny_mono (wpAny_forIn_list _ (fun rest (b : Option Addr × List (Sem Value × Sem Value)) s' => b.2 = [] ∧ ∃ ts', rest = ts'.map (fun t => ((none : Option (Sem Value)), t)) ∧ J ts' b.1 s') (fun b s' => b.2 = [] ∧ J [] b.1 s') ?turn (fun b s' h => ?fin) _ _ ⟨rfl, ts, rfl, h0⟩) (fun b s' h => ?out) fun _ _ e => e
  case fin =>
    obtain ⟨h1, ts', h2, h3⟩ := h
    have : ts' = [] := by
      cases ts' with
      | nil => rfl
      | cons a l => cases h2
    subst this
    exact ⟨h1, h3⟩
  case turn =>
    rintro x rest ⟨main, run⟩ s' ⟨h1, ts', h2, h3⟩
    have h1 : run = [] := h1
    subst h1
    cases ts' with
    | nil => cases h2
    | cons t ts' =>
      cases h2
      obtain ⟨d, s0, hd, hw⟩ := turn t ts' main s' h3
      refine wpAny_bind (wpAny_of_eq (a := main) rfl ?_)
      rcases hd with ⟨rfl, rfl⟩ | ⟨rfl, rfl, rfl⟩
      · refine wpAny_bind (wpAny_pure ?_)
        refine wpAny_bind (wpAny_holding (wpAny_mono hw (fun m s1 hm => ?_) fun _ _ e => e))
        refine wpAny_bind (wpAny_onRaise (wpAny_tryCatch (wpAny_onRaise (wpAny_holding (wpAny_mono hm (fun _ s2 h2 => ?_) fun _ _ z => z.elim)))))
        exact wpAny_pure ⟨rfl, ts', rfl, h2⟩
      · refine wpAny_bind (wpAny_alloc ?_)
        refine wpAny_bind (wpAny_holding (wpAny_mono hw (fun m s1 hm => ?_) fun _ _ e => e))
        refine wpAny_bind (wpAny_onRaise (wpAny_tryCatch (wpAny_onRaise (wpAny_holding (wpAny_mono hm (fun _ s2 h2 => ?_) fun _ _ z => z.elim)))))
        exact wpAny_pure ⟨rfl, ts', rfl, h2⟩
  case out =>
    obtain ⟨main, run⟩ := b
    obtain ⟨h1, h2⟩ := h
    have h1 : run = [] := h1
    subst h1
    obtain ⟨d, e, q⟩ := fin main s' h2
    have e : main = some d := e
    subst e
    refine wpAny_bind (wpAny_of_eq (a := some d) rfl ?_)
    exact wpAny_pure q
end

/-- mergeV is mergeK -/
theorem merge_ok {K : PySem.W.Frag} {ca : CA} {φ : Pl} {H : Hp} : ∀ {ks' : List DK} {l' : List PV} {ws : List V} {ks : List DK} {l : List PV} {vs : List V}, ks.length = l.length → RVs K ca φ H l vs → ks'.length = l'.length → RVs K ca φ H l' ws →
    ∃ us, mergeK ((ks.map dk).zip vs) ((ks'.map dk).zip ws) = ((mergeV ks l ks' l').1.map dk).zip us ∧ (mergeV ks l ks' l').1.length = (mergeV ks l ks' l').2.length ∧ RVs K ca φ H (mergeV ks l ks' l').2 us
  | [], [], ws, ks, l, vs, z, r, _, r' => by
    have e : ws = [] := r'
    subst e
    exact ⟨vs, rfl, z, r⟩
  | k :: ks', x :: l', ws, ks, l, vs, z, r, z', r' => by
    obtain ⟨v, ws', ev, r1, r2⟩ := r'
    subst ev
    obtain ⟨us, e1, z1, rs, _⟩ := put_ok (k := k) z r r1
    obtain ⟨us2, e2, z2, rs2⟩ := merge_ok (ks' := ks') (l' := l') (ws := ws') (ks := (putV ks l k x).1) (l := (putV ks l k x).2) (vs := us) z1 rs (by simpa using z') r2
    refine ⟨us2, ?_, z2, rs2⟩
    show mergeK (putK ((ks.map dk).zip vs) (dk k) v) ((ks'.map dk).zip ws') = _
    rw [e1]
    exact e2
  | [], _ :: _, _, _, _, _, _, _, z, _ => by cases z
  | _ :: _, [], _, _, _, _, _, _, z, _ => by cases z
/-- {**a, ..} of data -/
def starD (s : Sl) : List (Sl → PH → M PV) → List DK → List PV → PH → Option (List DK × List PV × PH)
  | [], ks, l, h => some (ks, l, h)
  | m :: ms, ks, l, h => bd (m s h) fun x h => match x with
    | .dct ks' l' => if ks.length + ks'.length ≤ sizeLine then starD s ms (mergeV ks l ks' l').1 (mergeV ks l ks' l').2 h else none
    | _ => none
/-- expressions and what they do -/
inductive PEs (X : Cx) (ca : CA) : List Expr → List (Sl → PH → M PV) → Prop where
  | nil : PEs X ca [] []
  | cons {e : Expr} {es : List Expr} {m : Sl → PH → M PV} {ms : List (Sl → PH → M PV)} : PE X e (tD X.K ca m) → PEs X ca es ms → PEs X ca (e :: es) (m :: ms)
def starTs (pos : Pos) (env : Env) (es : List Expr) : List (Sem Value) := es.map fun e => do
  let x ← eval e env
  standAt pos
  pure x
theorem evalEach_map (env : Env) : ∀ es : List Expr, evalEach es env = es.map fun e => eval e env
  | [] => rfl
  | e :: es => by
    show eval e env :: evalEach es env = _
    rw [evalEach_map env es]
    rfl
theorem evalOpt_none (env : Env) : ∀ {n : Nat}, evalEachOpt (List.replicate n none) env = List.replicate n none
  | 0 => rfl
  | n + 1 => by
    show evalOpt none env :: evalEachOpt (List.replicate n none) env = none :: List.replicate n none
    rw [evalOpt_none env]
    rfl
theorem zip_none {α β : Type} : ∀ l : List β, (List.replicate l.length (none : Option α)).zip l = l.map fun t => (none, t)
  | [] => rfl
  | a :: l => by
    show (none, a) :: (List.replicate l.length (none : Option α)).zip l = _
    rw [zip_none l]
    rfl
section
variable {X : Cx} {ca : CA} {pos : Pos}
theorem d_dctS {al : Bool} {es : List Expr} {ms : List (Sl → PH → M PV)} (he : PEs X ca es ms) (hne : es ≠ []) :
    PE X (.Dict (List.replicate es.length none) es pos) (tD X.K ca fun s h => ob (starD s ms [] [] h) fun p => newD al p.1 p.2.1 p.2.2) := by
  refine ⟨fun pins s0 σ H Q I hq => ?_⟩
  obtain ⟨φ, s, h, x, h', rs, rh, e, q⟩ := hq
  obtain ⟨⟨kd, ld, h2⟩, e2, e⟩ := ob_eq e
  rw [arm_eval_Dict, evalOpt_none, evalEach_map, List.map_map]
  refine wpAny_bind (wpAny_standAt ?_)
  have ez : (List.replicate es.length (none : Option (Sem Value))).zip (es.map ((fun v : Sem Value => (do let x ← v; standAt pos; pure x : Sem Value)) ∘ fun e => eval e X.env)) = (starTs pos X.env es).map fun t => (none, t) := by
    have := zip_none (α := Sem Value) (starTs pos X.env es)
    rw [show (starTs pos X.env es).length = es.length from by unfold starTs; rw [List.length_map]] at this
    exact this
  rw [ez]
  let J : List (Sem Value) → Option Addr → Shared → Prop := fun rest main s' => ∃ es' ms', rest = starTs pos X.env es' ∧ PEs X ca es' ms' ∧
    ((main = none ∧ es' ≠ [] ∧ ms' = ms ∧ s' = s0) ∨ ∃ d φ' h' H' ks l acc, main = some d ∧ H d = none ∧ Inv X pins σ H' s' ∧ Ext φ H φ' H' ∧ d ∈ φ'.x ∧ RH X.K ca φ' h' H' ∧ H' d = some (.dK ((ks.map dk).zip acc)) ∧ ks.length = l.length ∧ RVs X.K ca φ' H' l acc ∧ starD s ms' ks l h' = some (kd, ld, h2))
  refine display_stars J ⟨es, ms, rfl, he, .inl ⟨rfl, hne, rfl, rfl⟩⟩ (fun t rest main s' hJ => ?_) fun main s' hJ => ?_
  · obtain ⟨es', ms', e1, hp, hJ⟩ := hJ
    -- one more
    have step : ∀ (d : Addr) (φ' : Pl) (h' : PH) (H' : Hp) (ks : List DK) (l : List PV) (acc : List V) (s1 : Shared), H d = none → Inv X pins σ H' s1 → Ext φ H φ' H' → d ∈ φ'.x → RH X.K ca φ' h' H' → H' d = some (.dK ((ks.map dk).zip acc)) → ks.length = l.length →
        RVs X.K ca φ' H' l acc → starD s ms' ks l h' = some (kd, ld, h2) → wpAny (model X.prog X.w) X.A t (fun m s2 => wpAny (model X.prog X.w) X.A (mergeMapping d m false) (fun _ s3 => J rest (some d) s3) (fun _ _ => False) s2) X.xe s1 := by
      intro d φ' h1 H' ks l acc s1 hd I1 y1 hm rh1 eD hz rl es1
      cases hp with
      | nil => cases e1
      | @cons e0 es0 m0 ms0 p0 ps =>
        have e1 : t :: rest = (do let x ← eval e0 X.env; standAt pos; pure x) :: starTs pos X.env es0 := e1
        injection e1 with e1 e1'
        subst e1 e1'
        obtain ⟨x1, h3, em, es2⟩ := bd_eq (show (bd (m0 s h1) fun x h => match x with
          | .dct ks' l' => if ks.length + ks'.length ≤ sizeLine then starD s ms0 (mergeV ks l ks' l').1 (mergeV ks l ks' l').2 h else none
          | _ => none) = some (kd, ld, h2) from es1)
        refine wpAny_bind (thn (p0.run pins s1 σ H' (fun v H2 => ∃ φ2, Ext φ' H' φ2 H2 ∧ RH X.K ca φ2 h3 H2 ∧ RV X.K ca φ2 H2 x1 v) I1 ⟨φ', s, h1, x1, h3, rs.ext y1.toExt0, rh1, em, fun v φ2 H2 y2 rh2 r2 => ⟨φ2, y2, rh2, r2⟩⟩) fun v s2 ⟨w, H2, I2, rw2, φ2, y2, rh2, r2⟩ => ?_)
        refine wpAny_bind (wpAny_standAt (wpAny_pure ?_))
        cases x1 with
        | dct ks' l' =>
          have es2 : (if ks.length + ks'.length ≤ sizeLine then starD s ms0 (mergeV ks l ks' l').1 (mergeV ks l ks' l').2 h3 else none) = some (kd, ld, h2) := es2
          split at es2
          · rename_i hlen
            obtain ⟨a, us, ev, ⟨f1, f2⟩, hz', rl'⟩ := r2
            subst ev
            obtain rfl : v = Value.ref a := rw2
            have k2 : H2 d = some (.dK ((ks.map dk).zip acc)) := (y2.keepx d hm).2 _ eD
            have m2 : d ∈ φ2.x := (y2.keepx d hm).1
            have ne : d ≠ a := fun z => f2.2 (z ▸ m2)
            obtain ⟨z1, lo1, vs1, rel1, dd1⟩ := dk_of I2.hok k2
            obtain ⟨z2, lo2, vs2, rel2, dd2⟩ := dk_rd I2.hok f1
            have rl2 : RVs X.K ca φ2 H2 l acc := RVs.ext y2.toExt0 _ _ rl
            obtain ⟨us2, eM, zM, rM⟩ := merge_ok hz rl2 hz' rl'
            have la := rl2.length
            have lu := rl'.length
            have l1 : ((ks.map dk).zip acc).length = ks.length := by rw [List.length_zip, List.length_map]; omega
            have l2 : ((ks'.map dk).zip us).length = ks'.length := by rw [List.length_zip, List.length_map]; omega
            refine mergeMapping_ok ne lo2 dd1 dd2 (by rw [← rel1.length, ← rel2.length, l1, l2]; exact hlen) fun h4 dd4 sb => ?_
            have he4 : ∃ q, h4.get? d = some q := let ⟨q, _, _, hq, _⟩ := dd4; ⟨q, hq⟩
            have hle : (mergeK ((ks.map dk).zip acc) ((ks'.map dk).zip us)).length ≤ sizeLine := Nat.le_trans (length_mergeK _ _) (by rw [l1, l2]; exact hlen)
            have I3 : Inv X pins σ (upd H2 d (.dK (mergeK ((ks.map dk).zip acc) ((ks'.map dk).zip us)))) { s2 with heap := h4 } :=
              d_write (t' := s2.toks) I2 (by rw [k2]; trivial) sb he4 (dk_new hle lo1 (KV.merge rel2 rel1) dd4)
            rw [eM] at I3
            refine ⟨es0, ms0, rfl, ps, .inr ⟨d, φ2, h3, _, _, _, us2, rfl, hd, I3, (y1.trans y2).put_new hd m2, m2, rh2.put m2, upd_same, zM, RVs.ext (Ext0.put m2) _ _ rM, es2⟩⟩
          · cases es2
        | _ => cases es2
    rcases hJ with ⟨rfl, hn, rfl, rfl⟩ | ⟨d, φ', h1, H', ks, l, acc, rfl, hd, I1, y1, hm, rh1, eD, hz, rl, es1⟩
    · have hT : H s'.heap.objs.size = none := I.hok.fresh (Nat.le_refl _)
      have lo : (s'.heap.objs.size == sysModules) = false := beq_eq_false_iff_ne.mpr (Nat.ne_of_gt I.big)
      have I1 : Inv X pins σ (upd H s'.heap.objs.size (.dK [])) { s' with heap := s'.heap.push { cls := .type "dict", data := .dict #[] } } :=
        I.laid (t' := s'.toks) (fun b o e => Heap.get?_push_of_some _ e) (Nat.le_refl _) (dk_empty s'.heap I.big)
      exact ⟨_, _, .inr ⟨rfl, rfl, rfl⟩, step _ ⟨φ.l, s'.heap.objs.size :: φ.x⟩ h _ [] [] [] _ hT I1 (Ext.hide hT) List.mem_cons_self (rh.hide hT) upd_same rfl rfl e2⟩
    · exact ⟨d, s', .inl ⟨rfl, rfl⟩, step d φ' h1 H' ks l acc s' hd I1 y1 hm rh1 eD hz rl es1⟩
  · obtain ⟨es', ms', e1, hp, hJ⟩ := hJ
    rcases hJ with ⟨_, hn, _, _⟩ | ⟨d, φ', h1, H', ks, l, acc, rfl, hd, I1, y1, hm, rh1, eD, hz, rl, es1⟩
    · cases es' with
      | nil => exact absurd rfl hn
      | cons a l => cases e1
    · cases hp with
      | cons _ _ => cases e1
      | nil =>
        cases es1
        exact ⟨d, rfl, .ref d, H', I1, rfl, apart_D hd rh y1 hm rh1 eD rl hz e q⟩
end
end Lt

set_option maxRecDepth 100000
namespace Lt
open PySem PySem.Spec L2
abbrev SpG := List V → Hp → VK → Prop
def FnG (P : Program) (w : World) (K : PySem.W.Frag) (mg : Str → Option Value) (base : Heap) (k : Nat) (f : Addr) (sp : SpG) : Prop :=
  ∀ (A : Around) (outer : List Env) (s : Shared) (H : Hp) (us : List Value) (vs : List V) (Q : VK), Room k A → A.guards = some [] → Env0 P w K mg base A outer s H → Vals vs us → sp vs H Q →
    codeAny (model P w) A (.call (.ref f) ⟨us, []⟩) (CR L2.CX0 outer P w H s Q L2.E0) s
section
variable {P : Program} {w : World} {K : PySem.W.Frag} {mg : Str → Option Value} {base : Heap} {j k : Nat} {f : Addr} {sp sp' : SpG}
theorem FnG.mono (F : FnG P w K mg base j f sp) (h : j ≤ k) : FnG P w K mg base k f sp := fun A outer s H us vs Q hr => F A outer s H us vs Q (hr.mono h)
theorem FnG.imp (F : FnG P w K mg base k f sp) (h : ∀ vs H Q, sp' vs H Q → sp vs H Q) : FnG P w K mg base k f sp' := fun A outer s H us vs Q hr hg e0 r hs => F A outer s H us vs Q hr hg e0 r (h _ _ _ hs)
end
section
variable {X : Cx} {k : Nat} {f C p g : Addr} {sp : SpG} {x m : Str} {p' pos apos : Pos} {e o : Expr} {es : List Expr} {t : TA} {ta : TE} {pins : List (Addr × Obj)} {σ : L2.St} {H : Hp} {s : Shared}
theorem run_fnG {Q : VK} {us : List Value} {vs : List V} (F : FnG X.prog X.w X.K X.mg X.base k f sp) (hr : Room k X.A) (hgd : X.A.guards = some []) (I : Inv X pins σ H s) (r : Vals vs us) (h : sp vs H Q) :
    codeAny (model X.prog X.w) X.A (.call (.ref f) ⟨us, []⟩) (fun r s' => match r with | .ok (.ret v) => EP X pins σ Q v s' | .ok _ => False | .error e => X.xe e s') s := by
  refine codeAny_mono (F X.A X.stack s H us vs Q hr hgd I.env0 r h) fun r s' hq => ?_
  cases r with
  | error e => exact False.elim hq
  | ok fl =>
    cases fl with
    | ret u => exact I.after hq
    | next => exact False.elim hq
    | brk => exact False.elim hq
    | cont => exact False.elim hq
def tCallG (sp : SpG) (t : TA) : TE := fun σ H Q => t σ H fun vs H1 => sp vs H1 Q
theorem pe_callG (F : FnG X.prog X.w X.K X.mg X.base k f sp) (hr : Room k X.A) (hgd : X.A.guards = some []) (hg : Gl X x) (hm : X.mg x = some (.ref f)) (hk : PySem.W.keepIn X.K (.ref f) = true)
    (ha : PA X (e :: es) t) (hdb : (x == ("__debug__" : Str)) = false) (he : starEach (e :: es) X.env = (false, eval e X.env) :: starEach es X.env) (hpl : (backTo pos (starEach es X.env)).any (·.1) = false) :
    PE X (.Call (.Name x p') (e :: es) [] pos) (tCallG sp t) := by
  refine ⟨fun pins s σ H Q I h => ?_⟩
  refine wpAny_Call_Name_kw (ld_glob I hg hm ?_ hdb)
  refine PySem.W.callWith_K (h₀ := X.base) I.ok.mod.kin hk (thn (ha.run pos pins s σ H _ I h) fun us s1 ⟨vs, H1, I1, r, q⟩ => ⟨I1.kIn, ?_⟩) he hpl
  exact wpAny_call (run_fnG F hr hgd I1 r q)
theorem pe_callG0 (F : FnG X.prog X.w X.K X.mg X.base k f sp) (hr : Room k X.A) (hgd : X.A.guards = some []) (hg : Gl X x) (hm : X.mg x = some (.ref f)) (hk : PySem.W.keepIn X.K (.ref f) = true) (hdb : (x == ("__debug__" : Str)) = false) :
    PE X (.Call (.Name x p') [] [] pos) (tCallG sp tNil) := by
  refine ⟨fun pins s σ H Q I h => ?_⟩
  refine wpAny_Call_Name_kw (ld_glob I hg hm ?_ hdb)
  exact PySem.W.callWith_K0 I.kIn hk (wpAny_call (run_fnG (us := []) F hr hgd I .nil h))
/-- o.m(e, ..) -/
def tMethG (C : Addr) (sp : SpG) (ta : TE) (t : TA) : TE := fun σ H Q => ta σ H fun x H1 => ∃ a dx vs, x = .ref a ∧ SlX.Slt H1 a C dx vs ∧ t σ H1 fun ws H2 => sp (x :: ws) H2 Q
theorem pe_methG {pl : Sem Bool} (he : PE X o ta) (c : SlX.SCls X.K C) (hm : Meth X.K C m g) (F : FnG X.prog X.w X.K X.mg X.base k g sp) (hr : Room k X.A) (hgd : X.A.guards = some []) (ha : PA X (e :: es) t)
    (hst : starEach (e :: es) X.env = (false, eval e X.env) :: starEach es X.env) (hpl : (backTo pos (starEach es X.env)).any (·.1) = false)
    (ht : eval (.Call (.Attribute o m apos) (e :: es) [] pos) X.env = (do
      let ov ← eval o X.env
      standAt apos.atName
      let (f, first) ← holding [ov] (getMethod ov m pl)
      callWith pos f first (backTo pos (starEach (e :: es) X.env)) (backToKw pos (keywordEach [] X.env)))) :
    PE X (.Call (.Attribute o m apos) (e :: es) [] pos) (tMethG C sp ta t) := by
  refine ⟨fun pins s σ H Q I h => ?_⟩
  refine PySem.W.methodCall_KW (pl := pl) (thn (he.run pins s σ H _ I h) fun u s1 ⟨x, H1, I1, rx, a, dx, vs, ex, hsl, q⟩ => ?_) ht
  subst ex
  obtain rfl : u = Value.ref a := rx
  refine SlX.getmethsl_ok I1 hsl c hm ?_
  refine PySem.W.callWith_K (first := [.ref a]) (h₀ := X.base) I.ok.mod.kin hm.kp (thn (ha.run pos pins s1 σ H1 _ I1 q) fun us s2 ⟨ws, H2, I2, r, q2⟩ => ⟨I2.kIn, ?_⟩) hst hpl
  exact wpAny_call (run_fnG (us := .ref a :: us) (vs := .ref a :: ws) F hr hgd I2 (.cons rfl r) q2)
/-- e.f, a property -/
theorem getprop_G {f : Str} {b : Bool} {a dx : Addr} {vs : List (Option V)} {Q : VK} (I : Inv X pins σ H s) (h : SlX.Slt H a C dx vs) (c : SlX.SCls X.K C) (at_ : PySem.W.findIn X.K (.ref C) f = some (some (.ref p))) (get : PySem.W.specialIn X.K (.ref p) "__get__" = some (some (.builtin "property.__get__")))
    (tk : PySem.W.takesIn X.K (.ref p) = some true) (rc : ∃ rest, PySem.W.recIn X.K p "property" = some (.ref g :: rest)) (F : FnG X.prog X.w X.K X.mg X.base k g sp) (hr : Room (k + 1) X.A) (hgd : X.A.guards = some [])
    (q : sp [.ref a] H Q) : wpAny (model X.prog X.w) X.A (getAttr (.ref a) f b) (EP X pins σ Q) X.xe s := by
  obtain ⟨sl, od, _, J, _⟩ := SlX.slt_inst I h
  obtain ⟨rest, hrec⟩ := rc
  have I1 : Inv X pins σ H { s with toks := s.toks + 1 } := I.tok (s.toks + 1)
  refine PySem.W.get_bind I.kIn J (PySem.W.plainGet_of (c.get f)).1 (PySem.W.findObj_data c.ic at_ get tk) (PySem.W.plainGet_of (c.get f)).2 (wpAny_call (PySem.W.prop_get (s := { s with toks := s.toks + 1 }) I.kIn hrec ?_))
  refine codeAny_mono (F X.A.in1 X.stack { s with toks := s.toks + 1 } H [.ref a] [.ref a] Q hr.in1 hgd I1.env0.in1 (.cons rfl .nil) q) fun r s' hq => ?_
  cases r with
  | error e => exact False.elim hq
  | ok fl =>
    cases fl with
    | ret u =>
      obtain ⟨v, H', I2, rv, q⟩ := I1.after hq
      exact wpAny_of_eq (PySem.W.handedOut_of (handed_of rv)) ⟨v, H', I2, rv, q⟩
    | next => exact False.elim hq
    | brk => exact False.elim hq
    | cont => exact False.elim hq
def tPropG (C : Addr) (sp : SpG) (ta : TE) : TE := fun σ H Q => ta σ H fun x H1 => ∃ a dx vs, x = .ref a ∧ SlX.Slt H1 a C dx vs ∧ sp [.ref a] H1 Q
theorem pe_propG {f : Str} (he : PE X e ta) (c : SlX.SCls X.K C) (at_ : PySem.W.findIn X.K (.ref C) f = some (some (.ref p))) (get : PySem.W.specialIn X.K (.ref p) "__get__" = some (some (.builtin "property.__get__")))
    (tk : PySem.W.takesIn X.K (.ref p) = some true) (rc : ∃ rest, PySem.W.recIn X.K p "property" = some (.ref g :: rest)) (F : FnG X.prog X.w X.K X.mg X.base k g sp) (hr : Room (k + 1) X.A) (hgd : X.A.guards = some [])
    (hb : attributeBase e f X.env (eval e X.env) = eval e X.env) : PE X (.Attribute e f pos) (tPropG C sp ta) := by
  refine ⟨fun pins s σ H Q I h => ?_⟩
  refine attr_of hb (thn (he.run pins s σ H _ I h) fun w s1 ⟨x, H1, I1, rx, a, dx, vs, ex, hs, q⟩ => ?_)
  subst ex
  obtain rfl : w = Value.ref a := rx
  exact getprop_G I1 hs c at_ get tk rc F hr hgd q
/-- C(..) -/
theorem run_makeG {f : Addr} {Q : VK} {us : List Value} {vs : List V} (M : Mk X.K C f) (F : FnG X.prog X.w X.K X.mg X.base k f sp) (hr : Room (k + 1) X.A) (hgd : X.A.guards = some []) (I : Inv X pins σ H s) (r : Vals vs us)
    (h : ∀ x dx, H x = none → H dx = none → dx ≠ x → sp (.ref x :: vs) (upd (upd H dx (.own x)) x (.ins C dx [])) (fun v H2 => v = .non ∧ Q (.ref x) H2)) :
    wpAny (model X.prog X.w) X.A (call (.ref C) us) (EP X pins σ Q) X.xe s := by
  have hq := h (s.heap.objs.size + 1) s.heap.objs.size (I.hok.fresh (Nat.le_succ _)) (I.hok.fresh (Nat.le_refl _)) (Nat.ne_of_lt (Nat.lt_succ_self _))
  have I2 := Inv.made (C := C) I
  have r2 : Vals (V.ref (s.heap.objs.size + 1) :: vs) (Value.ref (s.heap.objs.size + 1) :: us) := .cons rfl r
  have hgd2 : (X.A.under (.builtin "type.__call__" ⟨.ref C :: us, []⟩)).guards = some [] := by
    show pushGuards (Code.guards (.builtin "type.__call__" ⟨.ref C :: us, []⟩)) X.A.guards = some []
    rw [hgd, show Code.guards (.builtin "type.__call__" ⟨.ref C :: us, []⟩) = [] from by
      unfold Code.guards
      rw [if_neg]
      show ¬ (guardIds.contains "type.__call__" = true)
      decide]
    rfl
  refine wpAny_call (make_map (f := f) I.kIn M.makes M.init (beq_iff_eq.mp M.fn) (codeAny_mono (F _ X.stack _ _ (Value.ref (s.heap.objs.size + 1) :: us) _ _ (hr.make C us [])
    hgd2 (I2.env0.make C us []) r2 hq) fun r s' hq' => ?_))
  cases r with
  | error e => exact False.elim hq'
  | ok fl =>
    cases fl with
    | ret u =>
      obtain ⟨v, H', I3, rv, ev, q3⟩ := I2.after hq'
      subst ev
      exact ⟨rv, ⟨V.ref (s.heap.objs.size + 1), H', I3, rfl, q3⟩⟩
    | next => exact False.elim hq'
    | brk => exact False.elim hq'
    | cont => exact False.elim hq'
def tMakeG (C : Addr) (sp : SpG) (t : TA) : TE := fun σ H Q => t σ H fun vs H1 => ∀ x dx, H1 x = none → H1 dx = none → dx ≠ x →
  sp (.ref x :: vs) (upd (upd H1 dx (.own x)) x (.ins C dx [])) (fun v H2 => v = .non ∧ Q (.ref x) H2)
theorem pe_makeG {f : Addr} (M : Mk X.K C f) (F : FnG X.prog X.w X.K X.mg X.base k f sp) (hr : Room (k + 1) X.A) (hgd : X.A.guards = some []) (hg : Gl X x) (hm : X.mg x = some (.ref C))
    (ha : PA X (e :: es) t) (hdb : (x == ("__debug__" : Str)) = false) (he : starEach (e :: es) X.env = (false, eval e X.env) :: starEach es X.env) (hpl : (backTo pos (starEach es X.env)).any (·.1) = false) :
    PE X (.Call (.Name x p') (e :: es) [] pos) (tMakeG C sp t) := by
  refine ⟨fun pins s σ H Q I h => ?_⟩
  refine wpAny_Call_Name_kw (ld_glob I hg hm ?_ hdb)
  refine PySem.W.callWith_K (h₀ := X.base) I.ok.mod.kin M.kp (thn (ha.run pos pins s σ H _ I h) fun us s1 ⟨vs, H1, I1, r, q⟩ => ⟨I1.kIn, ?_⟩) he hpl
  exact run_makeG M F hr hgd I1 r q
end
end Lt

set_option maxRecDepth 100000
namespace Lt
open PySem PySem.Spec L2
/-- what a def promises, by data -/
def spOf (K : PySem.W.Frag) (ca : CA) (m : List PV → PH → M PV) : SpG := fun vs H Q => ∃ φ h xs z h', RVs K ca φ H xs vs ∧ RH K ca φ h H ∧ m xs h = some (z, h') ∧ Pst K ca φ H z h' Q
section
variable {X : Cx} {ca : CA} {k : Nat} {f : Addr} {x : Str} {p pos : Pos} {e : Expr} {es : List Expr} {c : List PV → PH → M PV} {m : Sl → PH → M (List PV)}
theorem t_callG {K : PySem.W.Frag} {c : List PV → PH → M PV} (σ : St) (H : Hp) (Q : VK) (q : tD K ca (fun s h => bd (m s h) fun vs h => c vs h) σ H Q) : tCallG (spOf K ca c) (tDA K ca m) σ H Q := by
  obtain ⟨φ, s, h, z, h', rs, rh, e, q⟩ := q
  obtain ⟨xs, h1, e1, e⟩ := bd_eq e
  exact ⟨φ, s, h, xs, h1, rs, rh, e1, fun vs φ1 H1 y1 rh1 r1 => ⟨φ1, h1, xs, z, h', r1, rh1, e, fun v φ2 H2 y2 rh2 r2 => q v φ2 H2 (y1.trans y2) rh2 r2⟩⟩
/-- f(e, ..) -/
theorem d_call (F : FnG X.prog X.w X.K X.mg X.base k f (spOf X.K ca c)) (hr : Room k X.A) (hgd : X.A.guards = some []) (hg : Gl X x) (hm : X.mg x = some (.ref f)) (hk : PySem.W.keepIn X.K (.ref f) = true)
    (ha : PA X (e :: es) (tDA X.K ca m)) (hdb : (x == ("__debug__" : Str)) = false) (he : starEach (e :: es) X.env = (false, eval e X.env) :: starEach es X.env) (hpl : (backTo pos (starEach es X.env)).any (·.1) = false) :
    PE X (.Call (.Name x p) (e :: es) [] pos) (tD X.K ca fun s h => bd (m s h) fun vs h => c vs h) := wkE (pe_callG F hr hgd hg hm hk ha hdb he hpl) t_callG
theorem d_call0 (F : FnG X.prog X.w X.K X.mg X.base k f (spOf X.K ca c)) (hr : Room k X.A) (hgd : X.A.guards = some []) (hg : Gl X x) (hm : X.mg x = some (.ref f)) (hk : PySem.W.keepIn X.K (.ref f) = true) (hdb : (x == ("__debug__" : Str)) = false) :
    PE X (.Call (.Name x p) [] [] pos) (tD X.K ca fun s h => c [] h) := by
  refine wkE (pe_callG0 F hr hgd hg hm hk hdb) fun σ H Q q => ?_
  obtain ⟨φ, s, h, z, h', rs, rh, e, q⟩ := q
  exact ⟨φ, h, [], z, h', rfl, rh, e, q⟩
end
section
variable {K : PySem.W.Frag} {ca : CA} {φ : Pl} {h : PH} {H : Hp}
theorem ROs.map : ∀ {l : List PV} {vs : List V}, RVs K ca φ H l vs → ROs K ca φ H (l.map some) (vs.map some)
  | [], vs, r => by
    have e : vs = [] := r
    subst e
    exact rfl
  | x :: l, vs, r => by
    obtain ⟨v, us, e, r1, r2⟩ := r
    subst e
    exact ⟨some v, us.map some, rfl, r1, ROs.map r2⟩
theorem ROs.get : ∀ {l : List (Option PV)} {vs : List (Option V)} {i : Nat} {x : PV}, ROs K ca φ H l vs → l[i]? = some (some x) → ∃ v, vs[i]? = some (some v) ∧ RV K ca φ H x v
  | [], _, _, _, _, e => by simp at e
  | d :: l, vs, 0, x, r, e => by
    obtain ⟨v, us, ev, r1, r2⟩ := r
    subst ev
    have e : d = some x := by simpa using e
    subst e
    cases v with
    | none => exact r1.elim
    | some v => exact ⟨v, rfl, r1⟩
  | d :: l, vs, i + 1, x, r, e => by
    obtain ⟨v, us, ev, r1, r2⟩ := r
    subst ev
    obtain ⟨u, e2, r3⟩ := ROs.get (i := i) r2 (by simpa using e)
    exact ⟨u, by simpa using e2, r3⟩
theorem ROs.length : ∀ {l : List (Option PV)} {vs : List (Option V)}, ROs K ca φ H l vs → l.length = vs.length
  | [], vs, r => by
    have e : vs = [] := r
    rw [e]
    rfl
  | d :: l, vs, r => by
    obtain ⟨v, us, e, _, r2⟩ := r
    rw [e, List.length_cons, List.length_cons, ROs.length r2]
theorem ROs.append : ∀ {l m : List (Option PV)} {vs us : List (Option V)}, ROs K ca φ H l vs → ROs K ca φ H m us → ROs K ca φ H (l ++ m) (vs ++ us)
  | [], m, vs, us, r, q => by
    have e : vs = [] := r
    subst e
    exact q
  | d :: l, m, vs, us, r, q => by
    obtain ⟨v, ws, e, r1, r2⟩ := r
    subst e
    exact ⟨v, ws ++ us, rfl, r1, ROs.append r2 q⟩
theorem ROs.nones : ∀ n : Nat, ROs K ca φ H (List.replicate n none) (List.replicate n none)
  | 0 => rfl
  | n + 1 => ⟨none, List.replicate n none, rfl, trivial, ROs.nones n⟩
theorem ROs.set : ∀ {l : List (Option PV)} {vs : List (Option V)} (i : Nat) {x : PV} {v : V}, ROs K ca φ H l vs → RV K ca φ H x v → ROs K ca φ H (l.set i (some x)) (vs.set i (some v))
  | [], vs, i, x, v, r, q => by
    have e : vs = [] := r
    subst e
    exact rfl
  | d :: l, vs, 0, x, v, r, q => by
    obtain ⟨u, us, e, r1, r2⟩ := r
    subst e
    exact ⟨some v, us, rfl, q, r2⟩
  | d :: l, vs, i + 1, x, v, r, q => by
    obtain ⟨u, us, e, r1, r2⟩ := r
    subst e
    exact ⟨u, us.set i (some v), rfl, r1, ROs.set i r2 q⟩
theorem ROs.put {l : List (Option PV)} {vs : List (Option V)} (i : Nat) {x : PV} {v : V} (r : ROs K ca φ H l vs) (q : RV K ca φ H x v) : ROs K ca φ H (putD i x l) (SlX.putS i v vs) := by
  unfold putD SlX.putS
  rw [← r.length]
  exact (r.append (ROs.nones _)).set i q
/-- an instance of the class c, by data: where it stands -/
theorem inst_at {o : PV} {v : V} {c : Nat} (rh : RH K ca φ h H) (r : RV K ca φ H o v) (e : clsV o h = some c) : ∃ a dx vs, v = .ref a ∧ SlX.Slt H a (ca c) dx vs := by
  cases o with
  | obj c' l =>
    cases e
    obtain ⟨a, dx, vs, ev, h1, h2, _, _, _⟩ := r
    exact ⟨a, dx, _, ev, .inr ⟨h1, h2⟩⟩
  | ref n =>
    obtain ⟨p, ep, ev⟩ := r
    obtain ⟨o, eo, ro⟩ := rh.pl ep
    have e' : (match h[n]? with
      | some (.ins c _) => some c
      | _ => none) = some c := e
    rw [eo] at e'
    cases o with
    | ins c' l =>
      cases e'
      obtain ⟨_, vs, q, _⟩ := ro
      exact ⟨p.1, p.2, vs, ev, q⟩
    | _ => cases e'
  | _ => cases e
/-- .. and what it holds at the slot i -/
def slotV (i : Nat) (o : PV) (h : PH) : Option PV :=
  match o with
  | .obj _ l => l[i]?
  | .ref n => match h[n]? with
    | some (.ins _ l) => match l[i]? with
      | some (some v) => some v
      | _ => none
    | _ => none
  | _ => none
theorem inst_slot {o x : PV} {v : V} {c i : Nat} (rh : RH K ca φ h H) (r : RV K ca φ H o v) (e : clsV o h = some c) (es : slotV i o h = some x) : ∃ a dx vs u, v = .ref a ∧ SlX.Slt H a (ca c) dx vs ∧ vs[i]? = some (some u) ∧ RV K ca φ H x u := by
  cases o with
  | obj c' l =>
    cases e
    obtain ⟨a, dx, vs, ev, h1, h2, _, _, rs⟩ := r
    obtain ⟨u, eu, ru⟩ := rs.get es
    exact ⟨a, dx, _, u, ev, .inr ⟨h1, h2⟩, by rw [List.getElem?_map, eu]; rfl, ru⟩
  | ref n =>
    obtain ⟨p, ep, ev⟩ := r
    obtain ⟨o, eo, ro⟩ := rh.pl ep
    have e' : (match h[n]? with
      | some (.ins c _) => some c
      | _ => none) = some c := e
    have es' : (match h[n]? with
      | some (.ins _ l) => match l[i]? with
        | some (some v) => some v
        | _ => none
      | _ => none) = some x := es
    rw [eo] at e' es'
    cases o with
    | ins c' l =>
      cases e'
      obtain ⟨_, vs, q, rs⟩ := ro
      have es' : (match l[i]? with
        | some (some v) => some v
        | _ => none) = some x := es'
      cases el : l[i]? with
      | none => rw [el] at es'; cases es'
      | some d => cases d with
        | none => rw [el] at es'; cases es'
        | some y =>
          rw [el] at es'
          cases es'
          obtain ⟨u, eu, ru⟩ := rs.get el
          exact ⟨p.1, p.2, vs, u, ev, q, eu, ru⟩
    | _ => cases e'
  | _ => cases e
end
/-- what of the text is known of a class: the class's slots by name and place -/
structure ClsF (K : PySem.W.Frag) (C : Addr) (slots : List Nat) (nm : Nat → Str) : Prop where
  sc : SlX.SCls K C
  sl : ∀ i f, slots.idxOf? f = some i → ∃ p, SlX.Slot1 K C (nm f) p i
section
variable {X : Cx} {ca : CA} {o e value : Expr} {f : Str} {pos pos' : Pos} {mo mv : Sl → PH → M PV} {c i : Nat} {p : Addr}
/-- e.f, a slot of the class c -/
theorem d_fld (he : PE X e (tD X.K ca mo)) (hc : SlX.SCls X.K (ca c)) (hs : SlX.Slot1 X.K (ca c) f p i) (hb : attributeBase e f X.env (eval e X.env) = eval e X.env) :
    PE X (.Attribute e f pos) (tD X.K ca fun s h => bd (mo s h) fun x h => if clsV x h = some c then ob (slotV i x h) fun v => some (v, h) else none) := by
  refine wkE (SlX.pe_sl he hb) fun σ H Q q => ?_
  obtain ⟨φ, s, h, z, h', rs, rh, e, q⟩ := q
  obtain ⟨x, h1, e1, e⟩ := bd_eq e
  have e : (if clsV x h1 = some c then ob (slotV i x h1) fun v => some (v, h1) else none) = some (z, h') := e
  split at e
  · rename_i hcl
    obtain ⟨y, e2, e⟩ := ob_eq e
    cases e
    refine ⟨φ, s, h, x, _, rs, rh, e1, fun v φ1 H1 y1 rh1 r1 => ?_⟩
    obtain ⟨a, dx, vs, u, ev, sl, eu, ru⟩ := inst_slot rh1 r1 hcl e2
    exact ⟨a, ca c, dx, p, vs, i, u, ev, sl, hc, hs, eu, q u φ1 H1 y1 rh1 ru⟩
  · cases e
/-- o.f = v -/
def putFldV (c i : Nat) (o v : PV) (h : PH) : Option PH :=
  match o with
  | .ref n => match h[n]? with
    | some (.ins c' l) => if c' = c then some (h.set n (.ins c (putD i v l))) else none
    | _ => none
  | _ => none
theorem d_setFld (ha : PE X o (tD X.K ca mo)) (hv : PE X value (tD X.K ca mv)) (hc : SlX.SCls X.K (ca c)) (hs : SlX.Slot1 X.K (ca c) f p i) (hsw : swapsWith value (some (.Attribute o f pos')) pos.line X.env = pure false) :
    PS X (.Assign [.Attribute o f pos'] value pos) (tDS X.K ca fun s h => bd (mv s h) fun x h => bd (mo s h) fun y h => ob (putFldV c i y x h) fun h => some (.nx s h)) := by
  refine wkS (SlX.ps_sl ha hv hsw) fun D σ H q => ?_
  obtain ⟨φ, s, h, out, rs, rh, e, q⟩ := q
  obtain ⟨x, h1, e1, e⟩ := bd_eq e
  obtain ⟨y, h2, e2, e⟩ := bd_eq e
  obtain ⟨h3, e3, e⟩ := ob_eq e
  cases e
  refine ⟨φ, s, h, x, h1, rs, rh, e1, fun v φ1 H1 y1 rh1 r1 => ⟨φ1, s, h1, y, h2, rs.ext y1.toExt0, rh1, e2, fun w φ2 H2 y2 rh2 r2 => ?_⟩⟩
  cases y with
  | ref n =>
    obtain ⟨pl, ep, ev⟩ := r2
    obtain ⟨ob', eo, ro⟩ := rh2.pl ep
    have e3 : (match h2[n]? with
      | some (.ins c' l) => if c' = c then some (h2.set n (.ins c (putD i x l))) else none
      | _ => none) = some h3 := e3
    rw [eo] at e3
    cases ob' with
    | ins c' l =>
      have e3 : (if c' = c then some (h2.set n (.ins c (putD i x l))) else none) = some h3 := e3
      split at e3
      · rename_i ec
        subst ec
        cases e3
        obtain ⟨⟨z1, u, z2⟩, vs, sl, ros⟩ := ro
        have kp : ∀ b, b ≠ pl.1 → b ≠ pl.2 → SlX.slH H2 pl.1 (ca c') pl.2 (SlX.putS i v vs) b = H2 b := fun b h1 h2 => SlX.slH_ne h1 h2
        have xc := rh2.changes ep kp
        have rv2 := RV.ext xc.toExt0 _ _ (RV.ext y2.toExt0 _ _ r1)
        refine ⟨pl.1, ca c', pl.2, p, vs, i, ev, sl, hc, hs, q σ φ2 _ ((y1.trans y2).trans xc) (rh2.change ep kp ⟨⟨z1, .xd [], ?_⟩, SlX.putS i v vs, SlX.slH_slt z1, (ROs.ext xc.toExt0 _ _ ros).put i rv2⟩) ((rs.ext y1.toExt0).ext ((y2.trans xc).toExt0))⟩
        show SlX.slH H2 pl.1 (ca c') pl.2 (SlX.putS i v vs) pl.2 = some (.xd [])
        unfold SlX.slH
        rw [upd_ne z1, upd_same]
      · cases e3
    | _ => cases e3
  | _ => cases e3
end
section
variable {X : Cx} {ca : CA} {k c : Nat} {g q : Addr} {o e : Expr} {es : List Expr} {m f : Str} {pos apos : Pos} {mo : Sl → PH → M PV} {ma : Sl → PH → M (List PV)} {cf : List PV → PH → M PV}
theorem d_meth {pl : Sem Bool} (ho : PE X o (tD X.K ca mo)) (hc : SlX.SCls X.K (ca c)) (hm : Meth X.K (ca c) m g) (F : FnG X.prog X.w X.K X.mg X.base k g (spOf X.K ca cf)) (hr : Room k X.A) (hgd : X.A.guards = some []) (ha : PA X (e :: es) (tDA X.K ca ma))
    (hst : starEach (e :: es) X.env = (false, eval e X.env) :: starEach es X.env) (hpl : (backTo pos (starEach es X.env)).any (·.1) = false)
    (ht : eval (.Call (.Attribute o m apos) (e :: es) [] pos) X.env = (do
      let ov ← eval o X.env
      standAt apos.atName
      let (f, first) ← holding [ov] (getMethod ov m pl)
      callWith pos f first (backTo pos (starEach (e :: es) X.env)) (backToKw pos (keywordEach [] X.env)))) :
    PE X (.Call (.Attribute o m apos) (e :: es) [] pos) (tD X.K ca fun s h => bd (mo s h) fun x h => if clsV x h = some c then bd (ma s h) fun vs h => cf (x :: vs) h else none) := by
  refine wkE (pe_methG (pl := pl) ho hc hm F hr hgd ha hst hpl ht) fun σ H Q q => ?_
  obtain ⟨φ, s, h, z, h', rs, rh, e, q⟩ := q
  obtain ⟨x, h1, e1, e⟩ := bd_eq e
  have e : (if clsV x h1 = some c then bd (ma s h1) fun vs h => cf (x :: vs) h else none) = some (z, h') := e
  split at e
  · rename_i hcl
    obtain ⟨xs, h2, e2, e⟩ := bd_eq e
    refine ⟨φ, s, h, x, h1, rs, rh, e1, fun v φ1 H1 y1 rh1 r1 => ?_⟩
    obtain ⟨a, dx, vs, ev, sl⟩ := inst_at rh1 r1 hcl
    refine ⟨a, dx, vs, ev, sl, φ1, s, h1, xs, h2, rs.ext y1.toExt0, rh1, e2, fun ws φ2 H2 y2 rh2 r2 => ⟨φ2, h2, x :: xs, z, h', RVs.cons (RV.ext y2.toExt0 _ _ r1) r2, rh2, e, fun w φ3 H3 y3 rh3 r3 => q w φ3 H3 ((y1.trans y2).trans y3) rh3 r3⟩⟩
  · cases e
theorem d_prop (he : PE X e (tD X.K ca mo)) (hc : SlX.SCls X.K (ca c)) (at_ : PySem.W.findIn X.K (.ref (ca c)) f = some (some (.ref q))) (get : PySem.W.specialIn X.K (.ref q) "__get__" = some (some (.builtin "property.__get__")))
    (tk : PySem.W.takesIn X.K (.ref q) = some true) (rc : ∃ rest, PySem.W.recIn X.K q "property" = some (.ref g :: rest)) (F : FnG X.prog X.w X.K X.mg X.base k g (spOf X.K ca cf)) (hr : Room (k + 1) X.A)
    (hgd : X.A.guards = some []) (hb : attributeBase e f X.env (eval e X.env) = eval e X.env) :
    PE X (.Attribute e f pos) (tD X.K ca fun s h => bd (mo s h) fun x h => if clsV x h = some c then cf [x] h else none) := by
  refine wkE (pe_propG he hc at_ get tk rc F hr hgd hb) fun σ H Q q => ?_
  obtain ⟨φ, s, h, z, h', rs, rh, e, q⟩ := q
  obtain ⟨x, h1, e1, e⟩ := bd_eq e
  have e : (if clsV x h1 = some c then cf [x] h1 else none) = some (z, h') := e
  split at e
  · rename_i hcl
    refine ⟨φ, s, h, x, h1, rs, rh, e1, fun v φ1 H1 y1 rh1 r1 => ?_⟩
    obtain ⟨a, dx, vs, ev, sl⟩ := inst_at rh1 r1 hcl
    refine ⟨a, dx, vs, ev, sl, φ1, h1, [x], z, h', ?_, rh1, e, fun w φ3 H3 y3 rh3 r3 => q w φ3 H3 (y1.trans y3) rh3 r3⟩
    rw [← ev]
    exact RVs.one r1
  · cases e
end
/-- x in o, o an instance whose class has its own __contains__ -/
theorem special_fnU {M : Model} {A : Around} {s : Shared} {K : PySem.W.Frag} {x C : Addr} {E : Value → Shared → Prop} {ox : Obj} {od : Option Obj} {name : Str} {f : Addr} {args : List Value} {refuse : Sem Value} {Q : Option Value → Shared → Prop} (X : K.In s.heap) (I : PySem.W.InstAt s.heap x ox C od)
    (hs : PySem.W.findIn K (.ref C) name = some (some (.ref f))) (hf : PySem.W.typeIn K (.ref f) = some (.type "function")) (h : wpAny M A (call (.ref f) (.ref x :: args)) (fun v => Q (some v)) E s) :
    wpAny M A (callSpecialUnlessNone? (.ref x) name args refuse) Q E s := by
  unfold callSpecialUnlessNone?
  refine wpAny_bind (m := specialOf (.ref x) name) ?_
  refine wpAny_bind (I.type.here ((PySem.W.looks_findIn X hs).here ?_))
  refine wpAny_holding ?_
  refine wpAny_bind ((PySem.W.bind_fn X _ hf).here ?_)
  dsimp only
  rw [if_neg (by simp)]
  exact wpAny_bind (wpAny_mono h (fun _ _ z => wpAny_pure z) fun _ _ z => z)
end Lt

set_option maxRecDepth 100000
namespace Lt
open PySem PySem.Spec L2
section
variable {X : Cx} {ca : CA} {k c : Nat} {g : Addr} {cf : List PV → PH → M PV}
/-- x in o by an own __contains__ that answers True or False -/
def rInOwn (K : PySem.W.Frag) (C : Addr) (sp : SpG) (ne : Bool) : R2 := fun x y H Q => ∃ a dx vs, y = .ref a ∧ SlX.Slt H a C dx vs ∧ sp [y, x] H (fun z H' => ∃ b, z = .bl b ∧ Q (.bl (ne ^^ b)) H')
theorem contains_own {C : Addr} {sp : SpG} {pins : List (Addr × Obj)} {σ : St} {H : Hp} {s : Shared} {x y : V} {v u : Value} {Q : Bool → Hp → Prop} (I : Inv X pins σ H s) (rx : RelV x v) (ry : RelV y u) (hs : PySem.W.findIn X.K (.ref C) "__contains__" = some (some (.ref g))) (hf : PySem.W.isFn X.K (.ref g) = true)
    (F : FnG X.prog X.w X.K X.mg X.base k g sp) (hr : Room k X.A) (hgd : X.A.guards = some []) (q : ∃ a dx vs, y = .ref a ∧ SlX.Slt H a C dx vs ∧ sp [y, x] H (fun z H' => ∃ b, z = .bl b ∧ Q b H')) :
    wpAny (model X.prog X.w) X.A (contains u v) (fun b s' => ∃ H', Inv X pins σ H' s' ∧ Q b H') X.xe s := by
  obtain ⟨a, dx, vs, rfl, sl, q⟩ := q
  obtain rfl : u = Value.ref a := ry
  obtain ⟨sl', od, _, J, _⟩ := SlX.slt_inst I sl
  unfold contains
  refine wpAny_holding ?_
  rw [show stdlibNamesSay? (Value.ref a) v = none from rfl]
  refine wpAny_bind (m := specialOf (.ref a) (Str.ofString "__contains__")) ?_
  refine wpAny_bind (J.type.here ((PySem.W.looks_findIn I.kIn hs).here ?_))
  rw [show (some (Value.ref g) == some Value.none) = false from rfl, if_neg Bool.false_ne_true]
  refine wpAny_bind (special_fnU I.kIn J hs (beq_iff_eq.mp hf) (wpAny_mono (wpAny_call (run_fnG (us := [.ref a, v]) (vs := [.ref a, x]) F hr hgd I (.cons rfl (.cons rx .nil)) q)) (fun w s' z => ?_) fun _ _ x => x))
  obtain ⟨z', H', I', rz, b, eb, qb⟩ := z
  subst eb
  cases rz
  exact wpAny_truthy_bool ⟨H', I', qb⟩
theorem op_inOwn {C : Addr} {sp : SpG} (hs : PySem.W.findIn X.K (.ref C) "__contains__" = some (some (.ref g))) (hf : PySem.W.isFn X.K (.ref g) = true) (F : FnG X.prog X.w X.K X.mg X.base k g sp) (hr : Room k X.A) (hgd : X.A.guards = some []) :
    OpR X (compareOp .In) (rInOwn X.K C sp false) := by
  intro pins s σ H x y v u Q I rx ry h
  refine wpAny_bind (wpAny_mono (contains_own (Q := fun b H' => Q (.bl (false ^^ b)) H') I rx ry hs hf F hr hgd h) (fun b s' z => ?_) fun _ _ x => x)
  obtain ⟨H', I', q⟩ := z
  exact wpAny_pure (fin_bl I' q (by simp))
theorem op_notInOwn {C : Addr} {sp : SpG} (hs : PySem.W.findIn X.K (.ref C) "__contains__" = some (some (.ref g))) (hf : PySem.W.isFn X.K (.ref g) = true) (F : FnG X.prog X.w X.K X.mg X.base k g sp) (hr : Room k X.A) (hgd : X.A.guards = some []) :
    OpR X (compareOp .NotIn) (rInOwn X.K C sp true) := by
  intro pins s σ H x y v u Q I rx ry h
  refine wpAny_bind (wpAny_mono (contains_own (Q := fun b H' => Q (.bl (true ^^ b)) H') I rx ry hs hf F hr hgd h) (fun b s' z => ?_) fun _ _ x => x)
  obtain ⟨H', I', q⟩ := z
  exact wpAny_pure (fin_bl I' q (by simp))
/-- x in o, by data -/
theorem d_inOwn {ne : Bool} {a b : Expr} {pos : Pos} {ma mb : Sl → PH → M PV} {op : CmpOp} (hop : OpR X (compareOp op) (rInOwn X.K (ca c) (spOf X.K ca cf) ne)) (ha : PE X a (tD X.K ca ma)) (hb : PE X b (tD X.K ca mb)) (hm : behindInMarks op b = false) :
    PE X (.Compare a [op] [b] pos) (tD X.K ca fun s h => bd (ma s h) fun x h => bd (mb s h) fun y h => if clsV y h = some c then bd (cf [y, x] h) fun r h => match r with
      | .bl t => some (.bl (ne ^^ t), h)
      | _ => none else none) := by
  refine wkE (pe_cmpR hop ha hb hm) fun σ H Q q => ?_
  obtain ⟨φ, s, h, z, h', rs, rh, e, q⟩ := q
  obtain ⟨x, h1, e1, e⟩ := bd_eq e
  obtain ⟨y, h2, e2, e⟩ := bd_eq e
  refine ⟨φ, s, h, x, h1, rs, rh, e1, fun v1 φ1 H1 y1 rh1 r1 => ⟨φ1, s, h1, y, h2, rs.ext y1.toExt0, rh1, e2, fun v2 φ2 H2 y2 rh2 r2 => ?_⟩⟩
  have e : (if clsV y h2 = some c then bd (cf [y, x] h2) fun r h => match r with
      | .bl t => some (.bl (ne ^^ t), h)
      | _ => none else none) = some (z, h') := e
  split at e
  · rename_i hcl
    obtain ⟨r, h3, e3, e⟩ := bd_eq e
    obtain ⟨a', dx, vs, ev, sl⟩ := inst_at rh2 r2 hcl
    cases r with
    | bl t =>
      cases e
      refine ⟨a', dx, vs, ev, sl, φ2, h2, [y, x], .bl t, _, RVs.cons r2 (RVs.one (RV.ext y2.toExt0 _ _ r1)), rh2, e3, fun w φ3 H3 y3 rh3 r3 => ⟨t, r3, q _ φ3 H3 ((y1.trans y2).trans y3) rh3 rfl⟩⟩
    | _ => cases e
  · cases e
end
section
variable {K : PySem.W.Frag} {ca : CA} {φ : Pl} {h : PH} {H : Hp}
theorem allS_of : ∀ {l : List (Option PV)} {vs : List (Option V)} {xs : List PV}, ROs K ca φ H l vs → allS l = some xs → ∃ us, vs = us.map some ∧ RVs K ca φ H xs us
  | [], vs, xs, r, e => by
    cases e
    have ev : vs = [] := r
    subst ev
    exact ⟨[], rfl, rfl⟩
  | none :: l, vs, xs, r, e => by cases e
  | some x :: l, vs, xs, r, e => by
    obtain ⟨v, ws, ev, r1, r2⟩ := r
    subst ev
    have e' : (allS l).map (x :: ·) = some xs := e
    cases e1 : allS l with
    | none => rw [e1] at e'; cases e'
    | some ys =>
      rw [e1] at e'
      cases e'
      obtain ⟨us, e2, r3⟩ := allS_of r2 e1
      cases v with
      | none => exact r1.elim
      | some v => exact ⟨v :: us, by rw [e2]; rfl, RVs.cons r1 r3⟩
/-- a new instance, let loose -/
theorem loose_of {n c : Nat} {x : PV} {h' : PH} {v : V} (rh : RH K ca φ h H) (r : RV K ca φ H (.ref n) v) (e : loose n c h = some (x, h')) :
    ∃ φ', φ'.x = φ.x ∧ (∃ q, φ.l = φ'.l ++ q) ∧ φ'.l.length = n ∧ RH K ca φ' h' H ∧ RV K ca φ' H x v := by
  unfold loose at e
  cases eo : h[n]? with
  | none => rw [eo] at e; cases e
  | some o =>
    rw [eo] at e
    cases o with
    | ins k l =>
      cases ea : allS l with
      | none =>
        simp only [ea] at e
        cases e
      | some ys =>
        simp only [ea] at e
        cases ys with
        | nil => cases e
        | cons x0 xs =>
          have e : (if k = c ∧ h.length = n + 1 ∧ PV.cls n (x0 :: xs) = true ∧ (h.take n).all (PO.cl n) = true then some (PV.obj c (x0 :: xs), h.take n) else none) = some (x, h') := e
          split at e
          · rename_i cnd
            obtain ⟨ek, hl, c1, c2⟩ := cnd
            cases e
            subst ek
            obtain ⟨p, ep, ev⟩ := r
            obtain ⟨o', eo', ro⟩ := rh.pl ep
            rw [eo] at eo'
            cases eo'
            obtain ⟨⟨z1, _⟩, vs, sl, ros⟩ := ro
            obtain ⟨us, eus, rus⟩ := allS_of ros ea
            have hln : φ.l.length = n + 1 := by rw [rh.len]; exact hl
            have esp : φ.l = φ.l.take n ++ φ.l.drop n := (List.take_append_drop n φ.l).symm
            have hq : (φ.l.take n).length = n := by rw [List.length_take]; omega
            obtain ⟨pl, px⟩ := φ
            have rh2 : RH K ca ⟨pl.take n ++ pl.drop n, px⟩ h H := by
              rw [List.take_append_drop]
              exact rh
            have rus2 : RVs K ca ⟨pl.take n ++ pl.drop n, px⟩ H (x0 :: xs) us := by
              rw [List.take_append_drop]
              exact rus
            have hq : (pl.take n).length = n := hq
            refine ⟨⟨pl.take n, px⟩, rfl, ⟨pl.drop n, esp⟩, hq, ?_, ?_⟩
            · have := RH.less (q := pl.take n) (r := pl.drop n) (y := px) rh2 (by rw [hq]; exact c2)
              rw [hq] at this
              exact this
            · have ep2 : (pl.take n ++ pl.drop n)[n]? = some p := by rw [List.take_append_drop]; exact ep
              obtain ⟨o1, o2⟩ := RH.younger (q := pl.take n) (r := pl.drop n) (y := px) rh2 ep2 (by omega)
              subst ev
              rcases sl with ⟨_, ev⟩ | ⟨s1, s2⟩
              · rw [ev] at eus
                cases us with
                | nil => exact absurd rus.length (by simp)
                | cons u us => cases eus
              · rw [eus] at s1
                exact ⟨p.1, p.2, us, rfl, s1, s2, o1, o2, RVs.less _ _ rus2 (by rw [hq]; exact c1)⟩
          · cases e
    | _ => cases e
end
section
variable {X : Cx} {ca : CA} {k c : Nat} {g : Addr} {cf : List PV → PH → M PV} {x : Str} {p pos : Pos} {e : Expr} {es : List Expr} {m : Sl → PH → M (List PV)}
/-- C(..) by data -/
def mkV (vl : Bool) (c : Nat) (cf : List PV → PH → M PV) (l : List PV) (h : PH) : M PV := bd (cf (.ref h.length :: l) (h ++ [.ins c []])) fun v h1 => match v with
  | .non => ib vl (loose h.length c h1) (some (.ref h.length, h1))
  | _ => none
theorem d_make {vl : Bool} (M : Mk X.K (ca c) g) (F : FnG X.prog X.w X.K X.mg X.base k g (spOf X.K ca cf)) (hr : Room (k + 1) X.A) (hgd : X.A.guards = some []) (hg : Gl X x) (hm : X.mg x = some (.ref (ca c)))
    (ha : PA X (e :: es) (tDA X.K ca m)) (hdb : (x == ("__debug__" : Str)) = false) (he : starEach (e :: es) X.env = (false, eval e X.env) :: starEach es X.env) (hpl : (backTo pos (starEach es X.env)).any (·.1) = false) :
    PE X (.Call (.Name x p) (e :: es) [] pos) (tD X.K ca fun s h => bd (m s h) fun vs h => mkV vl c cf vs h) := by
  refine wkE (pe_makeG M F hr hgd hg hm ha hdb he hpl) fun σ H Q q => ?_
  obtain ⟨φ, s, h, z, h', rs, rh, e, q⟩ := q
  obtain ⟨xs, h1, e1, e⟩ := bd_eq e
  refine ⟨φ, s, h, xs, h1, rs, rh, e1, fun vs φ1 H1 y1 rh1 r1 x0 dx hx0 hdx hne => ?_⟩
  obtain ⟨v, h2, e2, e⟩ := bd_eq (show (bd (cf (.ref h1.length :: xs) (h1 ++ [.ins c []])) fun v h1' => match v with
    | .non => ib vl (loose h1.length c h1') (some (.ref h1.length, h1'))
    | _ => none) = some (z, h') from e)
  cases v with
  | non =>
    have kp : ∀ b, b ≠ (x0, dx).1 → b ≠ (x0, dx).2 → upd (upd H1 dx (.own x0)) x0 (.ins (ca c) dx []) b = H1 b := fun b h1 h2 => by rw [upd_ne h1, upd_ne h2]
    have xm : Ext φ1 H1 (φ1.and (x0, dx)) (upd (upd H1 dx (.own x0)) x0 (.ins (ca c) dx [])) := Ext.make hx0 hdx kp
    have rhm := rh1.make (p := (x0, dx)) (o := .ins c []) hx0 hdx kp ⟨⟨hne, .own x0, by rw [upd_ne hne, upd_same]⟩, [], .inl ⟨upd_same, rfl⟩, rfl⟩
    have rself : RV X.K ca (φ1.and (x0, dx)) (upd (upd H1 dx (.own x0)) x0 (.ins (ca c) dx [])) (.ref h1.length) (.ref x0) := ⟨(x0, dx), by
      show (φ1.l ++ [(x0, dx)])[h1.length]? = some (x0, dx)
      rw [List.getElem?_append_right (by rw [rh1.len]; exact Nat.le_refl _), rh1.len, Nat.sub_self]
      rfl, rfl⟩
    refine ⟨_, _, .ref h1.length :: xs, .non, h2, RVs.cons rself (RVs.ext xm.toExt0 _ _ r1), rhm, e2, fun w φ3 H3 y3 rh3 r3 => ⟨r3, ?_⟩⟩
    have y4 := y1.trans (xm.trans y3)
    have r4 := RV.ext y3.toExt0 _ _ rself
    cases vl with
    | false =>
      cases e
      exact q _ φ3 H3 y4 rh3 r4
    | true =>
      have e : loose h1.length c h2 = some (z, h') := e
      obtain ⟨φ4, ex, ⟨qq, el⟩, hlen, rh5, r5⟩ := loose_of rh3 r4 e
      have y14 := xm.trans y3
      have hpre : φ4.l = φ1.l := by
        obtain ⟨r, er⟩ := y14.pre
        have hl1 : φ1.l.length = h1.length := rh1.len
        have := congrArg (List.take h1.length) (el.symm.trans er)
        rw [List.take_append_of_le_length (by omega), List.take_append_of_le_length (by omega), List.take_of_length_le (by omega), List.take_of_length_le (by omega)] at this
        exact this
      have y5 : Ext φ1 H1 φ4 H3 := by
        obtain ⟨l4, x4⟩ := φ4
        obtain ⟨l3, x3⟩ := φ3
        have ex : x4 = x3 := ex
        have el : l3 = l4 ++ qq := el
        have hpre : l4 = φ1.l := hpre
        subst ex el hpre
        exact Ext.less y14
      exact q _ φ4 H3 (y1.trans y5) rh5 r5
  | _ => cases e
end
def tyN : Ty → Option String
  | .int => some "int"
  | .bool => some "bool"
  | .str => some "str"
  | .tuple => some "tuple"
  | .list => some "list"
  | .dict => some "dict"
  | .own _ => none
def kdV (h : PH) : PV → Option String
  | .non => some "NoneType"
  | .bl _ => some "bool"
  | .int _ => some "int"
  | .str _ => some "str"
  | .tup _ => some "tuple"
  | .lst _ => some "list"
  | .dct _ _ => some "dict"
  | .ref n => match h[n]? with
    | some (.lst _) => some "list"
    | some (.dct _ _) => some "dict"
    | _ => none
  | _ => none
theorem kitB_all : ∀ a ∈ ["NoneType", "bool", "int", "str", "tuple", "list", "dict"], ∀ b ∈ ["int", "bool", "str", "tuple", "list", "dict"], kitB a b = some (a == b || (a == "bool" && b == "int")) := by decide +kernel
end Lt

set_option maxRecDepth 100000
namespace Lt
open PySem PySem.Spec L2
theorem ty_kd {K : PySem.W.Frag} {ca : CA} {φ : Pl} {h : PH} {H : Hp} {x : PV} {v : V} {k : String} (rh : RH K ca φ h H) (r : RV K ca φ H x v) (e : kdV h x = some k) : TyX K H v (.type k) ∧ k ∈ ["NoneType", "bool", "int", "str", "tuple", "list", "dict"] := by
  cases x with
  | non =>
    cases e
    rw [show v = .non from r]
    exact ⟨.base .non, by simp⟩
  | bl b =>
    cases e
    rw [show v = .bl b from r]
    exact ⟨.base (.bl b), by simp⟩
  | int b =>
    cases e
    rw [show v = .int b from r]
    exact ⟨.base (.int b), by simp⟩
  | str b =>
    cases e
    rw [show v = .str (sx b) from r.1]
    exact ⟨.base (.str _), by simp⟩
  | tup l =>
    cases e
    obtain ⟨a, vs, ev, f, _, _⟩ := r
    subst ev
    rcases f with f | ⟨o, its, n, h1, h2, _⟩
    · rcases f.1 with f | ⟨o, f⟩
      · exact ⟨.base (.tup f), by simp⟩
      · exact ⟨.fTuple f, by simp⟩
    · exact ⟨.kTuple h1 h2, by simp⟩
  | lst l =>
    cases e
    obtain ⟨a, vs, ev, f, _, _⟩ := r
    subst ev
    exact ⟨.base (.lst f.1), by simp⟩
  | dct ks l =>
    cases e
    obtain ⟨a, vs, ev, ⟨f, _⟩, _, _⟩ := r
    subst ev
    rcases f with f | ⟨o, f⟩
    · exact ⟨.base (.dK f), by simp⟩
    · exact ⟨.fDict f, by simp⟩
  | ref n =>
    obtain ⟨p, ep, ev⟩ := r
    subst ev
    obtain ⟨o, eo, ro⟩ := rh.pl ep
    have e' : (match h[n]? with
      | some (.lst _) => some "list"
      | some (.dct _ _) => some "dict"
      | _ => none) = some k := e
    rw [eo] at e'
    cases o with
    | lst l =>
      cases e'
      obtain ⟨_, us, f, _⟩ := ro
      exact ⟨.base (.lst f), by simp⟩
    | dct ks l =>
      cases e'
      obtain ⟨_, us, f, _, _⟩ := ro
      exact ⟨.base (.dK f), by simp⟩
    | ins c l => cases e'
  | _ => cases e
def isiB (k t : String) : Bool := k == t || (k == "bool" && t == "int")
section
variable {X : Cx} {ca : CA} {e : Expr} {x tn : Str} {p p2 pos : Pos} {me : Sl → PH → M PV}
theorem d_isi {t : String} (hT : t ∈ ["int", "bool", "str", "tuple", "list", "dict"]) (hg : Gl X "isinstance") (hm : X.mg "isinstance" = none) (hgt : Gl X tn) (hmt : X.mg tn = none) (hbt : bootBuiltins tn = some (.type t)) (hn : tn ≠ "__name__") (hd : (tn == ("__debug__" : Str)) = false)
    (he : PE X e (tD X.K ca me)) (hs : starEach [e, .Name tn p2] X.env = (false, eval e X.env) :: starEach [.Name tn p2] X.env) :
    PE X (.Call (.Name "isinstance" p) [e, .Name tn p2] [] pos) (tD X.K ca fun s h => bd (me s h) fun x h => ob (kdV h x) fun k => some (.bl (isiB k t), h)) := by
  have pt : PE X (.Name tn p2) (tC (.ty t)) := pe_bltn hgt hmt hbt rfl hn hd
  refine wkE (pe_callB call_isi hg hm (by decide +kernel) (pa_cons he (pa_cons pt pa_nil) hs) (by decide) (by decide) hs rfl) fun σ H Q q => ?_
  obtain ⟨φ, s, h, z, h', rs, rh, e, q⟩ := q
  obtain ⟨x, h1, e1, e⟩ := bd_eq e
  obtain ⟨k, e2, e⟩ := ob_eq e
  cases e
  refine ⟨φ, s, h, x, _, rs, rh, e1, fun v φ1 H1 y1 rh1 r1 => ?_⟩
  obtain ⟨ty, hk⟩ := ty_kd rh1 r1 e2
  exact ⟨v, .ty t, .type k, .type t, isiB k t, rfl, .ty t, ty, kit_ty (kitB_all k hk t hT), q _ φ1 H1 y1 rh1 rfl⟩
/-- an own class and an instance of it -/
theorem d_isiO {c : Nat} (hg : Gl X "isinstance") (hm : X.mg "isinstance" = none) (hgt : Gl X tn) (hmt : X.mg tn = some (.ref (ca c))) (hd : (tn == ("__debug__" : Str)) = false) (hc : SlX.SCls X.K (ca c)) (hi : SlX.SIsi X.K (ca c))
    (he : PE X e (tD X.K ca me)) (hs : starEach [e, .Name tn p2] X.env = (false, eval e X.env) :: starEach [.Name tn p2] X.env) :
    PE X (.Call (.Name "isinstance" p) [e, .Name tn p2] [] pos) (tD X.K ca fun s h => bd (me s h) fun x h => if clsV x h = some c then some (.bl true, h) else none) := by
  have pt : PE X (.Name tn p2) (tC (.ref (ca c))) := pe_glob hgt hmt rfl hd
  refine wkE (pe_callB (SlX.call_isiSl (.ref (ca c))) hg hm (by decide +kernel) (pa_cons he (pa_cons pt pa_nil) hs) (by decide) (by decide) hs rfl) fun σ H Q q => ?_
  obtain ⟨φ, s, h, z, h', rs, rh, e, q⟩ := q
  obtain ⟨x, h1, e1, e⟩ := bd_eq e
  have e : (if clsV x h1 = some c then some (PV.bl true, h1) else none) = some (z, h') := e
  split at e
  · rename_i hcl
    cases e
    refine ⟨φ, s, h, x, _, rs, rh, e1, fun v φ1 H1 y1 rh1 r1 => ?_⟩
    obtain ⟨a, dx, vs, ev, sl⟩ := inst_at rh1 r1 hcl
    subst ev
    refine ⟨a, ca c, dx, vs, .ref (ca c), true, rfl, rfl, fun w r => r, sl, hc, hi, ?_, q _ φ1 H1 y1 rh1 rfl⟩
    unfold PySem.W.kitOne
    rw [if_pos (by simp)]
  · cases e
end
end Lt

set_option maxRecDepth 100000
set_option maxHeartbeats 2000000
namespace Lt
open PySem PySem.Spec PyProof.Rows L2
theorem fnG_of {P : Program} {w : World} {K : PySem.W.Frag} {mg : Str → Option Value} {base : Heap} {k : Nat} {f : Addr} {name qual : Str} {params : Arguments} {body : List Stmt} {scope : Scope} {dV kV doc pm cdv ct oc : Value} {an od : Option Addr}
    {osl : Array (Option Value)} {N ps : List Str} {sp : SpG} {ds : List Value} {dvs : List V} (lk : K.lookup f = some ⟨oc, od, .func (PySem.W.fnOf name qual params body scope dV kV doc pm an cdv ct), osl⟩) (hcd : PySem.W.codeIn K cdv qual = true) (S : FnScope N ps scope)
    (hb : Binds K (PySem.W.fnOf name qual params body scope dV kV doc pm an cdv ct) ps ds) (hd : Vals dvs ds) (len : ∀ vs H Q, sp vs H Q → (vs ++ dvs).length = ps.length)
    (hbody : ∀ (A : Around) (outer : List Env) (s : Shared) (H : Hp) (vs : List V) (Q : VK), Room k (A.deeper (envOfC qual scope s.heap.objs.size f cdv)) → A.guards = some [] → sp vs H Q →
      ∃ t, PSs (cxOf L2.CX0 P w K mg base N qual scope f cdv A outer s H L2.E0) body t ∧ t { nx := fun _ H' => Q .non H', rt := Q } (start N (vs ++ dvs)) H) :
    FnG P w K mg base (k + 1) f sp := by
  intro A outer s H us vs Q hr hgd e0 r hsp
  have hl := len _ _ _ hsp
  have KX : K.In s.heap := e0.mod.kin.keeps fun b o e => (e0.bs b o e).1
  have lim : s.heap.NoLimit := e0.mod.nolimit.keeps fun b o e => (e0.bs b o e).1
  have r2 : Vals (vs ++ dvs) (us ++ ds) := r.append hd
  have hl2 : (us ++ ds).length = ps.length := by rw [← r2.length]; exact hl
  have hkind : ∀ y ∈ ps.zip (us ++ ds), scope.names.lookup y.1 = some .local ∨ (scope.names.lookup y.1 = some .cell ∧ ((cellsFrom (s.heap.objs.size + 1) scope.names []).lookup y.1).isSome = true) := fun ⟨n, v⟩ hy => by
    rcases S.par n (List.of_mem_zip hy).1 with q | q
    · exact .inl q
    · exact .inr ⟨q, PySem.W.cellsFrom_some _ _ _ (.inl q)⟩
  refine codeAny_call_function hr.depth (KX _ _ lk) rfl S.co S.gen rfl (PySem.W.codeRec_of KX hcd) (hb s us KX hl2 _ _ _ _ ?_)
  refine wpAny_newFunctionEnv_cells S.kind hkind fun env he s1 x => ?_
  subst he
  refine ⟨lim.keeps x.toInCall.keep, codeAny_func ?_⟩
  obtain ⟨t, ht, hq⟩ := hbody A outer s H vs Q (hr.deeper _) hgd hsp
  have I : Inv (cxOf L2.CX0 P w K mg base N qual scope f cdv A outer s H L2.E0) [] (start N (vs ++ dvs)) H s1 := inv_start S hr.hd e0 hl r2 x
  refine wpAny_mono (ht.run [] s1 (start N (vs ++ dvs)) H _ I hq) (fun fl s' hs => ?_) fun e s' hs => hs
  have fin : ∀ {σ' : L2.St} {H' : Hp} {v : V} {u : Value}, Inv (cxOf L2.CX0 P w K mg base N qual scope f cdv A outer s H L2.E0) [] σ' H' s' → RelV v u → Q v H' → CE outer P w H s Q u s' :=
    fun {σ' H' v u} J rv q => ⟨v, H', J.os, J.bare, J.base, J.hok, rv, q⟩
  cases fl with
  | ret u =>
    obtain ⟨v, σ', H', J, rv, q⟩ := hs
    exact fin J rv q
  | next =>
    obtain ⟨σ', H', J, q⟩ := hs
    exact fin (v := V.non) (u := Value.none) J rfl q
  | brk =>
    obtain ⟨_, _, _, q⟩ := hs
    exact False.elim q
  | cont =>
    obtain ⟨_, _, _, q⟩ := hs
    exact False.elim q
/-- the law is called -/
theorem law_callG {P : Program} {w : World} {K : PySem.W.Frag} {mg mb : Str → Option Value} {k : Nat} {fa a : Addr} {sp : SpG} {s₁ : Shared} {vs : List Value} {ns : List Int}
    (KX : K.In s₁.heap) (hns : s₁.heap.Ns mainGlobals mg) (hb : s₁.heap.Ns builtinsNs mb) (hbb : ∀ x : Str, x ≠ "__name__" → mb x = bootBuiltins x) (hlim : s₁.heap.NoLimit) (hg : s₁.gens = #[])
    (ha : s₁.heap.get? a = some { cls := .type "list", data := .seq vs.toArray }) (hi : IntsAre vs ns) (hl : ns.length ≤ sizeLine) (hr : Room k callerA)
    (F : ∀ base : Heap, K.In base → base.Ns mainGlobals mg → FnG P w K mg base k fa sp)
    (hsp : ∀ H : Hp, Only H → SqL K H a (ns.map V.int) → sp [.ref a] H (fun v _ => v = .bl true)) :
    codeAny (model P w) callerA (.call (.ref fa) ⟨[.ref a], []⟩) (fun r s' => r = .ok (.ret (.bool true)) ∧ OldK s₁.heap s'.heap ∧ s'.os = s₁.os ∧ AllBare s'.gens) s₁ := by
  have rv := vals_ints hi
  have lenV := hi.length
  have core : ∀ H : Hp, Only H → SqL K H a (ns.map V.int) → HOk P w H s₁.heap → (∀ b, H b ≠ none → b = a) → (H a ≠ none → K.lookup a = none) →
      codeAny (model P w) callerA (.call (.ref fa) ⟨[.ref a], []⟩) (fun r s' => r = .ok (.ret (.bool true)) ∧ OldK s₁.heap s'.heap ∧ s'.os = s₁.os ∧ AllBare s'.gens) s₁ := by
    intro H hO hS hok hA hK
    have base_of : ∀ {b : Addr} {o : Obj}, s₁.heap.get? b = some o → H b = none → (hidT s₁.heap H).get? b = some o := fun e n => hidT_get e n
    have noA : ∀ {b : Addr} {o : Obj} {es : Array DictEntry} {ep : Nat}, s₁.heap.get? b = some o → o.data = .dict es ep → H b = none := fun {b o es ep} e d => by
      cases q : H b with
      | none => rfl
      | some u =>
        have e' : b = a := hA b (by rw [q]; simp)
        subst e'
        rw [ha] at e; cases e
        have d' : Data.seq vs.toArray _ = Data.dict es ep := d
        cases d'
    have nsK : ∀ {b : Addr} {m : Str → Option Value}, s₁.heap.Ns b m → (hidT s₁.heap H).Ns b m := fun {b m} ⟨o, es, ep, e, d, r⟩ => ⟨o, es, ep, base_of e (noA e d), d, r⟩
    have hKb : K.In (hidT s₁.heap H) := fun b o e => base_of (KX b o e) (by
      cases q : H b with
      | none => rfl
      | some u =>
        have e' : b = a := hA b (by rw [q]; simp)
        subst e'
        rw [hK (by rw [q]; simp)] at e; cases e)
    have hM : Mod K mg (hidT s₁.heap H) := ⟨hKb, nsK hns, ⟨mb, nsK hb, hbb⟩, let ⟨mc, h1, h2⟩ := hlim; ⟨mc, nsK h1, h2⟩⟩
    have e0 : Env0 P w K mg (hidT s₁.heap H) callerA [] s₁ H := ⟨rfl, hM, fun b o e => of_hidT e, Nat.le_of_eq (hidT_size _ _), trivial, fun b hb => absurd (show b ∈ ([] : List Addr) from hb) (by simp), hok, .of_eq hg⟩
    refine codeAny_mono (F _ hKb (nsK hns) callerA [] s₁ H [.ref a] [.ref a] _ hr rfl e0 (.cons rfl .nil) (hsp H hO hS)) fun r s' h => ?_
    cases r with
    | error e => exact False.elim h
    | ok fl =>
      cases fl with
      | next => exact False.elim h
      | brk => exact False.elim h
      | cont => exact False.elim h
      | ret u =>
        obtain ⟨v, H', os, bare, un, hok', r', q⟩ := h
        have q' : v = .bl true := q
        subst q'
        obtain rfl : u = Value.bool true := r'
        refine ⟨rfl, OldK.of_keep fun b o e => ?_, os, bare⟩
        cases q : H b with
        | none => exact un.keep b o e q (by intro z; exact absurd (show b ∈ ([] : List Addr) from z) (by simp)) (by simp)
        | some u =>
          rcases hO b with z | ⟨ob, xs, z⟩
          · rw [q] at z; cases z
          · have z2 := un.frzs b ob _ z
            obtain ⟨e1, _⟩ := hok b _ z
            obtain ⟨e2, _⟩ := hok' b _ z2
            rw [e] at e1; cases e1
            exact e2
  cases hk : K.lookup a with
  | some o =>
    have e := KX a o hk
    rw [ha] at e
    cases e
    refine core (fun _ => none) (fun _ => .inl rfl) (.inr ⟨_, vs.toArray, _, hk, rfl, rfl, rfl, by rw [List.size_toArray, lenV]; exact hl, by simpa using rv⟩) (fun b u z => by have z' : (none : Option HO) = some u := z; cases z') (fun b z => absurd rfl z) fun z => absurd rfl z
  | none =>
    refine core (fun b => if b = a then some (.frz { cls := .type "list", data := .seq vs.toArray } (.lst (ns.map V.int))) else none) (fun b => ?_) (.inl (.inr ⟨{ cls := .type "list", data := .seq vs.toArray }, if_pos rfl⟩)) (fun b u z => ?_) (fun b z => ?_) fun _ => hk
    · by_cases hb : b = a
      · exact .inr ⟨_, _, if_pos hb⟩
      · exact .inl (if_neg hb)
    · by_cases hb : b = a
      · have z' := (if_pos hb).symm.trans z
        cases z'
        subst hb
        exact ⟨ha, by rw [List.length_map]; exact hl, vs, _, rv, ha⟩
      · have z' := (if_neg hb).symm.trans z
        cases z'
    · by_cases hb : b = a
      · exact hb
      · exact absurd (if_neg hb) z
theorem walk_ofG {l : PySem.W.OpenLaw} {n k : Nat} {q : Program} {loose : List Str} {XP : (Str → Option Value) → Heap → Prop} {YP : World → Heap → Prop} {d : DefRec}
    (hn : l.most = some n) (hn2 : n ≤ sizeLine) (hdf : d.params.defaults = []) (hr : Room k callerA)
    (F : ∀ (w : World) (mg : Str → Option Value) (fa : Addr) (h : Heap), YP w h → h.Ns mainGlobals mg → mg d.name = some (.ref fa) →
      ∃ (K : PySem.W.Frag) (sp : SpG), K.In h ∧ (∀ (H : Hp) (a : Addr) (ns : List Int), ns.length ≤ n → Only H → SqL K H a (ns.map V.int) → sp [.ref a] H (fun v _ => v = .bl true)) ∧
        ∀ base : Heap, K.In base → base.Ns mainGlobals mg → FnG l.prog w K mg base k fa sp) :
    PySem.W.WalkO q loose XP YP l.row.toRowW d [] (fun f vs => PySem.call f vs) := by
  refine Att.attach_call hn hdf fun w s₀ s₁ mg mb fa o pm cd doc a vs ns G Y ho hd hcd hmg hobj hints hlen hg => ?_
  obtain ⟨K, sp, KX, hsp, hF⟩ := F w mg fa _ Y G.T.g hmg
  exact law_callG KX G.T.g G.T.b G.T.builtins G.T.nolimit hg hobj hints (Nat.le_trans hlen hn2) hr hF fun H hO hS => hsp H a ns hlen hO hS
/-- the law by data -/
theorem law_sp {K : PySem.W.Frag} {ca : CA} {c : List PV → PH → M PV} {n : Nat} (hn : n ≤ 63) (hc : ∀ ns : List Int, ns.length ≤ n → ∃ h', c [.scr ns] [] = some (.bl true, h')) (H : Hp) (a : Addr) (ns : List Int) (hl : ns.length ≤ n) (hO : Only H) (hS : SqL K H a (ns.map V.int)) :
    spOf K ca c [.ref a] H (fun v _ => v = .bl true) := by
  obtain ⟨h', e⟩ := hc ns hl
  refine ⟨⟨[], []⟩, [], [.scr ns], .bl true, h', RVs.one ⟨a, rfl, ?_, by omega⟩, ⟨rfl, fun n o e => by simp at e, fun n m p q _ e => by simp at e, fun p hp => by simp at hp, fun d hd => by simp at hd⟩, e, fun v φ' H' _ _ r => r⟩
  rcases hS with (hS | ⟨o, hS⟩) | hS
  · rcases hO a with z | ⟨ob, xs, z⟩
    · rw [hS] at z; cases z
    · rw [hS] at z; cases z
  · exact .inl ⟨⟨o, hS⟩, ⟨fun p hp => by simp at hp, by simp⟩⟩
  · exact .inr hS
end Lt

set_option maxRecDepth 100000
set_option maxHeartbeats 2000000
namespace Lt
open PySem PySem.Spec L2
mutual
/-- what repr shows -/
def PV.rp : PV → Option PyData
  | .non => some .none
  | .bl b => some (.bool b)
  | .int i => some (.int i)
  | .str x => some (.str (sx x))
  | .tup l => (PV.rps l).map .tuple
  | .lst l => (PV.rps l).map .list
  | .dct [] [] => some (.dict [])
  | _ => none
def PV.rps : List PV → Option (List PyData)
  | [] => some []
  | x :: l => match x.rp, PV.rps l with
    | some d, some r => some (d :: r)
    | _, _ => none
end
section
variable {X : Cx} {ca : CA} {φ : Pl} {pins : List (Addr × Obj)} {σ : L2.St} {H : Hp} {s : Shared}
/-- a tuple's object -/
theorem tup_obj (I : Inv X pins σ H s) {a : Addr} {vs : List V} (f : Fix φ H a (.tup vs) ∨ KT X.K a vs) : ∃ (o : Obj) (its : Array Value) (n : Nat), s.heap.get? a = some o ∧ o.cls = .type "tuple" ∧ o.data = .seq its n ∧ Vals vs its.toList := by
  rcases f with f | ⟨o, its, n, h1, h2, h3, _, h5⟩
  · obtain ⟨_, its, rv, o, h1, h2, n, h3⟩ := (show ObjOk X.prog X.w H s.heap a (.tup vs) from f.1.ok I.hok)
    exact ⟨o, its.toArray, n, h1, h2, h3, by simpa using rv⟩
  · exact ⟨o, its, n, I.kIn a o h1, h2, h3, h5⟩
theorem lst_obj (I : Inv X pins σ H s) {a : Addr} {vs : List V} (f : Fx1 φ H a (.lst vs)) : ∃ (o : Obj) (its : List Value) (n : Nat), s.heap.get? a = some o ∧ o.cls = .type "list" ∧ o.data = .seq its.toArray n ∧ Vals vs its := by
  obtain ⟨_, its, n, rv, h1⟩ := (show ObjOk X.prog X.w H s.heap a (.lst vs) from I.hok a _ f.1)
  exact ⟨_, its, n, h1, rfl, rfl, rv⟩
theorem dct_obj (I : Inv X pins σ H s) {a : Addr} (f : Fix φ H a (.dK [])) : ∃ (o : Obj) (n : Nat), s.heap.get? a = some o ∧ o.cls = .type "dict" ∧ o.data = .dict #[] n ∧ (a == sysModules) = false := by
  obtain ⟨_, z, vs, rel, o, es, ep, h1, h2, h3, h4⟩ := dk_rd I.hok f.1
  have : vs = [] := by
    have := rel.length
    cases vs with
    | nil => rfl
    | cons a l => simp at this
  subst this
  have h5 := h4.2.1.length
  have : es = #[] := by
    have : es.size = 0 := by simpa using h5
    exact Array.eq_empty_of_size_eq_zero this
  subst this
  exact ⟨o, ep, h1, h2.1, h3, z⟩
def RpOk (X : Cx) (s : Shared) (u : Value) (d : PyData) : Prop := ∃ as bs, Reads s.heap u d as ∧ ReadAtMost s.heap d.depth bs ∧ ReprK X.prog X.w bs s.heap d.depth u d.shown
def RpAll (X : Cx) (s : Shared) (us : List Value) (ds : List PyData) : Prop := ∃ as bs, ReadsAll s.heap us ds as ∧ ReadAtMost s.heap (PyData.depthAll ds) bs ∧ ReprAllK X.prog X.w bs s.heap (PyData.depthAll ds) us (PyData.shownAll ds)
mutual
theorem RV.repr (I : Inv X pins σ H s) : ∀ (x : PV) (v : V) (u : Value) (d : PyData), RV X.K ca φ H x v → RelV v u → x.rp = some d → d.showable = true → d.shown.length ≤ sizeLine → RpOk X s u d
  | .non, v, u, d, r, ru, e, _, _ => by
    cases e
    rw [show v = .non from r] at ru
    cases (show u = Value.none from ru)
    exact ⟨_, [], .none, (fun _ h => nomatch h), by simp only [PyData.shown]; exact .of_is ReprIs.none _ _ _⟩
  | .bl b, v, u, d, r, ru, e, _, _ => by
    cases e
    rw [show v = .bl b from r] at ru
    cases (show u = Value.bool b from ru)
    exact ⟨_, [], .bool b, (fun _ h => nomatch h), by simp only [PyData.shown]; exact .of_is (ReprIs.bool b) _ _ _⟩
  | .int i, v, u, d, r, ru, e, hs, _ => by
    cases e
    rw [show v = .int i from r] at ru
    obtain ⟨t, e⟩ := (show ∃ t, u = Value.int i t from ru)
    subst e
    exact ⟨_, [], .int i t, (fun _ h => nomatch h), by simp only [PyData.shown]; exact .of_is (ReprIs.int t (by simpa [PyData.showable] using hs)) _ _ _⟩
  | .str x, v, u, d, r, ru, e, _, hz => by
    cases e
    rw [show v = .str (sx x) from r.1] at ru
    obtain ⟨t, e⟩ := (show ∃ t, u = Value.str (sx x) t from ru)
    subst e
    exact ⟨_, [], .str _ t, (fun _ h => nomatch h), by simp only [PyData.shown]; exact .of_is (ReprIs.str _ t (by simpa only [PyData.shown] using hz)) _ _ _⟩
  | .tup l, v, u, d, r, ru, e, hs, hz => by
    have e' : (PV.rps l).map PyData.tuple = some d := e
    cases e1 : PV.rps l with
    | none => rw [e1] at e'; cases e'
    | some ds =>
      rw [e1] at e'
      cases e'
      obtain ⟨a, vs, ev, f, _, rs⟩ := r
      subst ev
      cases (show u = Value.ref a from ru)
      obtain ⟨o, its, n, h1, h2, h3, rv⟩ := tup_obj I f
      have hz' : (tupleText (PyData.shownAll ds)).length ≤ sizeLine := by simpa only [PyData.shown] using hz
      obtain ⟨as, bs, r4, hb, hk⟩ := RVs.repr I l vs its.toList ds rs rv e1 (by simpa [PyData.showable] using hs) (fun t ht => Nat.le_trans (tupleText_mem_le ht) hz')
      have rd : Reads s.heap (.ref a) (.tuple ds) _ := .tuple h1 h2 h3 r4
      have hna : a ∉ bs := not_mem_of_deeper rd (by simp only [PyData.depth]; omega) hb
      refine ⟨_, a :: bs, rd, ReadAtMost.cons rd (by simp only [PyData.depth]; omega) hb, ?_⟩
      simp only [PyData.depth, PyData.shown]
      exact ReprK.tuple h1 h2 h3 hna hk
  | .lst l, v, u, d, r, ru, e, hs, hz => by
    have e' : (PV.rps l).map PyData.list = some d := e
    cases e1 : PV.rps l with
    | none => rw [e1] at e'; cases e'
    | some ds =>
      rw [e1] at e'
      cases e'
      obtain ⟨a, vs, ev, f, _, rs⟩ := r
      subst ev
      cases (show u = Value.ref a from ru)
      obtain ⟨o, its, n, h1, h2, h3, rv⟩ := lst_obj I f
      have hz' : (listText (PyData.shownAll ds)).length ≤ sizeLine := by simpa only [PyData.shown] using hz
      obtain ⟨as, bs, r4, hb, hk⟩ := RVs.repr I l vs its ds rs rv e1 (by simpa [PyData.showable] using hs) (fun t ht => Nat.le_trans (listText_mem_le ht) hz')
      have rd : Reads s.heap (.ref a) (.list ds) _ := .list h1 h2 h3 (by simpa using r4)
      have hna : a ∉ bs := not_mem_of_deeper rd (by simp only [PyData.depth]; omega) hb
      refine ⟨_, a :: bs, rd, ReadAtMost.cons rd (by simp only [PyData.depth]; omega) hb, ?_⟩
      simp only [PyData.depth, PyData.shown]
      cases its with
      | nil =>
        cases r4
        simp only [PyData.shownAll, listText_nil]
        exact ReprK.listEmpty h1 h2 h3
      | cons x l => exact ReprK.list h1 h2 h3 hna (by simpa using hk.length_eq) (fun i y e => hk.item i y (by simpa using e))
  | .dct [] [], v, u, d, r, ru, e, _, _ => by
    cases e
    obtain ⟨a, vs, ev, f, _, rs⟩ := r
    have : vs = [] := rs
    subst this ev
    cases (show u = Value.ref a from ru)
    obtain ⟨o, n, h1, h2, h3, hsys⟩ := dct_obj I f
    have rd : Reads s.heap (.ref a) (.dict []) _ := .dict h1 h2 h3 .nil .nil
    refine ⟨_, [a], rd, ReadAtMost.cons rd (Nat.zero_le _) (fun _ h => nomatch h), ?_⟩
    simp only [PyData.depth, PyData.shown, PyData.shownKv, PyData.depthKv]
    exact ReprK.dict h1 h2 h3 hsys (by simp) .nil
  | .dct (_ :: _) _, _, _, _, _, _, e, _, _ => by cases e
  | .dct [] (_ :: _), _, _, _, _, _, e, _, _ => by cases e
  | .obj _ _, _, _, _, _, _, e, _, _ => by cases e
  | .ref _, _, _, _, _, _, e, _, _ => by cases e
  | .scr _, _, _, _, _, _, e, _, _ => by cases e
  | .rtx _, _, _, _, _, _, e, _, _ => by cases e
  | .ptup _, _, _, _, _, _, e, _, _ => by cases e
theorem RVs.repr (I : Inv X pins σ H s) : ∀ (l : List PV) (vs : List V) (us : List Value) (ds : List PyData), RVs X.K ca φ H l vs → Vals vs us → PV.rps l = some ds → PyData.showableAll ds = true → (∀ t ∈ PyData.shownAll ds, t.length ≤ sizeLine) → RpAll X s us ds
  | [], vs, us, ds, r, rv, e, _, _ => by
    cases e
    have ev : vs = [] := r
    subst ev
    cases rv
    exact ⟨_, [], .nil, (fun _ h => nomatch h), by simp only [PyData.shownAll]; exact .nil⟩
  | x :: l, vs, us, ds, r, rv, e, hs, hz => by
    obtain ⟨v, ws, ev, r1, r2⟩ := r
    subst ev
    cases rv with
    | cons ru rv =>
      have e' : (match x.rp, PV.rps l with
        | some d, some r => some (d :: r)
        | _, _ => none) = some ds := e
      cases e1 : x.rp with
      | none => rw [e1] at e'; cases e'
      | some d =>
        cases e2 : PV.rps l with
        | none => rw [e1, e2] at e'; cases e'
        | some ds2 =>
          rw [e1, e2] at e'
          cases e'
          have hs' : d.showable = true ∧ PyData.showableAll ds2 = true := by simpa [PyData.showableAll] using hs
          obtain ⟨a1, b1, q1, hb1, k1⟩ := RV.repr I x v _ d r1 ru e1 hs'.1 (hz _ (by simp only [PyData.shownAll]; exact List.mem_cons_self ..))
          obtain ⟨a2, b2, q2, hb2, k2⟩ := RVs.repr I l ws _ ds2 r2 rv e2 hs'.2 (fun t ht => hz t (by simp only [PyData.shownAll]; exact List.mem_cons_of_mem _ ht))
          refine ⟨_, b1 ++ b2, .cons q1 q2, ?_, ?_⟩
          · intro b hm
            simp only [PyData.depthAll]
            rcases List.mem_append.mp hm with hm | hm
            · obtain ⟨d', as', r', hd'⟩ := hb1 b hm
              exact ⟨d', as', r', Nat.le_trans hd' (Nat.le_max_left _ _)⟩
            · obtain ⟨d', as', r', hd'⟩ := hb2 b hm
              exact ⟨d', as', r', Nat.le_trans hd' (Nat.le_max_right _ _)⟩
          · simp only [PyData.depthAll, PyData.shownAll]
            exact .cons ((k1.more fun b hb => List.mem_append_left _ hb).level_le (Nat.le_max_left _ _)) (k2.more_le (fun b hb => List.mem_append_right _ hb) (Nat.le_max_right _ _))
end
end

/-- repr(x) of data -/
def reprV (l : List PV) (h : PH) : M PV :=
  match l with
  | [x] => match x.rp with
    | some d => if d.showable = true ∧ d.depth ≤ 60 ∧ d.shown.length ≤ sizeLine then some (.rtx d, h) else none
    | none => none
  | _ => none
section
variable {X : Cx} {ca : CA}
def rRepr (X : Cx) (ca : CA) : List V → Hp → VK → Prop := fun xs H Q => ∃ φ x v d, xs = [v] ∧ RV X.K ca φ H x v ∧ x.rp = some d ∧ d.showable = true ∧ d.depth ≤ 60 ∧ d.shown.length ≤ sizeLine ∧ Q (.str d.shown) H
theorem cr_repr (hgd : X.A.guards = some []) (hu : X.A.units + 64 < cLine) : CallR X (.builtin "repr") (rRepr X ca) := by
  intro pins s σ H xs us Q I rx h
  obtain ⟨φ, x, v, d, rfl, r, e, hs, hd, hz, q⟩ := h
  obtain ⟨u, rfl, ru⟩ := vals1 rx
  have fin : ∀ (h' : Heap) (u : Tok) (tk : Nat), (∀ b o, s.heap.get? b = some o → h'.get? b = some o) → EP X pins σ Q (.str d.shown u) { s with heap := h', toks := tk } := fun h' u tk k =>
    ⟨.str d.shown, H, I.kept k, ⟨u, rfl⟩, q⟩
  cases x with
  | non =>
    cases e
    rw [show v = .non from r] at ru
    cases (show u = Value.none from ru)
    exact PySem.P.repr_of_none (by simpa only [PyData.shown] using fin s.heap s.toks (s.toks + 1) fun _ _ e => e)
  | bl b =>
    cases e
    rw [show v = .bl b from r] at ru
    cases (show u = Value.bool b from ru)
    exact PySem.P.repr_of_bool (by simpa only [PyData.shown] using fin s.heap s.toks (s.toks + 1) fun _ _ e => e)
  | int i =>
    cases e
    rw [show v = .int i from r] at ru
    obtain ⟨t, e⟩ := (show ∃ t, u = Value.int i t from ru)
    subst e
    exact PySem.P.repr_of_int (by simpa [PyData.showable] using hs) (by simpa only [PyData.shown] using fin s.heap s.toks (s.toks + 1) fun _ _ e => e)
  | str y =>
    cases e
    rw [show v = .str (sx y) from r.1] at ru
    obtain ⟨t, e⟩ := (show ∃ t, u = Value.str (sx y) t from ru)
    subst e
    exact PySem.P.repr_of_str (by simpa only [PyData.shown] using fin s.heap s.toks (s.toks + 1) fun _ _ e => e) (by simpa only [PyData.shown] using hz)
  | tup l =>
    have e' : (PV.rps l).map PyData.tuple = some d := e
    cases e1 : PV.rps l with
    | none => rw [e1] at e'; cases e'
    | some ds =>
      rw [e1] at e'
      cases e'
      obtain ⟨a, vs, ev, f, _, rs⟩ := r
      subst ev
      cases (show u = Value.ref a from ru)
      obtain ⟨o, its, n, h1, h2, h3, rv⟩ := tup_obj I f
      have hz' : (tupleText (PyData.shownAll ds)).length ≤ sizeLine := by simpa only [PyData.shown] using hz
      obtain ⟨as, bs, r4, hb, hk⟩ := RVs.repr I l vs its.toList ds rs rv e1 (by simpa [PyData.showable] using hs) (fun t ht => Nat.le_trans (tupleText_mem_le ht) hz')
      have rd : Reads s.heap (.ref a) (.tuple ds) _ := .tuple h1 h2 h3 r4
      have hna : a ∉ bs := not_mem_of_deeper rd (by simp only [PyData.depth]; omega) hb
      have hd' : PyData.depthAll ds + 1 ≤ 60 := by simpa only [PyData.depth] using hd
      refine call_repr_slot (by omega) ⟨o, h1, h2⟩ F.slot_tuple_repr (call_tuple_reprK h1 h2 h3 hna hk hgd (fun b _ => Clear.nil b) (by show X.A.units + 1 + (PyData.depthAll ds + 1) < cLine; omega) (fun _ _ e => e) (fun h' u tk hk' => ⟨_, _, rfl, ?_⟩) hz')
      simpa only [PyData.shown] using fin h' u tk hk'
  | lst l =>
    have e' : (PV.rps l).map PyData.list = some d := e
    cases e1 : PV.rps l with
    | none => rw [e1] at e'; cases e'
    | some ds =>
      rw [e1] at e'
      cases e'
      obtain ⟨a, vs, ev, f, _, rs⟩ := r
      subst ev
      cases (show u = Value.ref a from ru)
      obtain ⟨o, its, n, h1, h2, h3, rv⟩ := lst_obj I f
      have hz' : (listText (PyData.shownAll ds)).length ≤ sizeLine := by simpa only [PyData.shown] using hz
      obtain ⟨as, bs, r4, hb, hk⟩ := RVs.repr I l vs its ds rs rv e1 (by simpa [PyData.showable] using hs) (fun t ht => Nat.le_trans (listText_mem_le ht) hz')
      have rd : Reads s.heap (.ref a) (.list ds) _ := .list h1 h2 h3 (by simpa using r4)
      have hna : a ∉ bs := not_mem_of_deeper rd (by simp only [PyData.depth]; omega) hb
      have hd' : PyData.depthAll ds + 1 ≤ 60 := by simpa only [PyData.depth] using hd
      cases its with
      | nil =>
        cases r4
        refine call_repr_slot (by omega) ⟨o, h1, h2⟩ F.slot_list_repr.toG (call_list_repr_empty ⟨o, h1, h2⟩ h1 h3 ⟨_, _, rfl, ?_⟩)
        have := fin s.heap s.toks (s.toks + 1) fun _ _ e => e
        simpa only [PyData.shown, PyData.shownAll, listText_nil] using this
      | cons y l' =>
        refine call_repr_slot (by omega) ⟨o, h1, h2⟩ F.slot_list_repr.toG (call_list_reprK h1 h2 h3 hna (by simpa using hk.length_eq) (fun i y e => hk.item i y (by simpa using e)) hgd (fun b _ => Clear.nil b) (by show X.A.units + 1 + (PyData.depthAll ds + 1) < cLine; omega) (fun _ _ e => e) (fun h' u tk hk' => ⟨_, _, rfl, ?_⟩) hz')
        simpa only [PyData.shown] using fin h' u tk hk'
  | dct ks l =>
    cases ks with
    | cons k ks => cases e
    | nil => cases l with
      | cons y l => cases e
      | nil =>
        cases e
        obtain ⟨a, vs, ev, f, _, rs⟩ := r
        have : vs = [] := rs
        subst this ev
        cases (show u = Value.ref a from ru)
        obtain ⟨o, n, h1, h2, h3, hsys⟩ := dct_obj I f
        refine call_repr_slot (by omega) ⟨o, h1, h2⟩ F.slot_dict_repr (call_dict_reprK (as := []) (d := 0) (ps := []) h1 h2 h3 hsys (by simp) .nil hgd (fun b _ => Clear.nil b) (by show X.A.units + 1 + (0 + 1) < cLine; omega) (fun _ _ e => e) (fun h' u tk hk' => ⟨_, _, rfl, ?_⟩) (by decide +kernel))
        have := fin h' u tk hk'
        simpa only [PyData.shown, PyData.shownKv] using this
  | _ => cases e
theorem ol_repr : OpL X.K ca (rRepr X ca) reprV := by
  intro φ h H xs z h' vs Q rh r0 e q
  cases xs with
  | nil => cases e
  | cons x l => cases l with
    | cons y l => cases e
    | nil =>
      obtain ⟨v, ev, r⟩ := RVs.one_of r0
      subst ev
      have e' : (match x.rp with
        | some d => if d.showable = true ∧ d.depth ≤ 60 ∧ d.shown.length ≤ sizeLine then some (PV.rtx d, h) else none
        | none => none) = some (z, h') := e
      cases e1 : x.rp with
      | none => rw [e1] at e'; cases e'
      | some d =>
        rw [e1] at e'
        have e' : (if d.showable = true ∧ d.depth ≤ 60 ∧ d.shown.length ≤ sizeLine then some (PV.rtx d, h) else none) = some (z, h') := e'
        split at e'
        · rename_i c
          cases e'
          exact ⟨φ, x, v, d, rfl, r, e1, c.1, c.2.1, c.2.2, q _ φ H Ext.refl rh rfl⟩
        · cases e'
end
end Lt

set_option maxRecDepth 100000
set_option maxHeartbeats 3200000
namespace Lt
open PySem PySem.Spec PyProof.Rows L2
def keyS (e : Int × Value) : Str := match e.2 with | .str k _ => k | _ => Str.empty
def GoodS (w : World) (e : Int × Value) : Prop := ∃ k tk, e.2 = Value.str k tk ∧ e.1 = hashStr w k

/-- the set of texts at a: S its members, n their number; its table rises and can be walked -/
def SetS (w : World) (h : Heap) (a : Addr) (S : Str → Bool) (n : Nat) : Prop :=
  ∃ o es ep t, h.get? a = some o ∧ o.ExactSet ∧ o.data = .set es ep t ∧ (∀ e ∈ es.toList, GoodS w e) ∧ (es.toList.map keyS).Nodup ∧ (∀ k, S k = true ↔ k ∈ es.toList.map keyS) ∧
    es.size < scanBound ∧ t.fits es.size = true ∧ es.size = n ∧ Ris t.place.toList ∧ (w.params.followText "set-order" = true ∨ t.led = true)

section
variable {P : Program} {w : World} {h h' : Heap} {a : Addr} {S : Str → Bool} {n : Nat}

theorem SetS.at (R : SetS w h a S n) (k : ∀ o, h.get? a = some o → h'.get? a = some o) : SetS w h' a S n := by
  obtain ⟨o, es, ep, t, ho, r⟩ := R
  exact ⟨o, es, ep, t, k o ho, r⟩
theorem SetS.lt (R : SetS w h a S n) : a < h.objs.size := by
  obtain ⟨o, es, ep, t, ho, r⟩ := R
  exact Heap.lt_size ho
theorem SetS.congr {S' : Str → Bool} (R : SetS w h a S n) (e : ∀ k, S' k = S k) : SetS w h a S' n := by
  have q : S' = S := funext e
  rw [q]; exact R
theorem goodS_elems {l : List (Int × Value)} (g : ∀ e ∈ l, GoodS w e) : ElemsOf (PySem.strKind P w) l := fun e he => by
  obtain ⟨k, tk, h1, h2⟩ := g e he
  exact ⟨⟨k, by rw [h1]; exact strKind_is P w k tk, h2⟩, by rw [h1] <;> rfl⟩
theorem goodS_is {e : Int × Value} (g : GoodS w e) (k : Str) : (PySem.strKind P w).is k e.2 = true ↔ keyS e = k := by
  obtain ⟨k0, tk, h1, _⟩ := g
  unfold keyS
  rw [h1]
  show ((k0 == k) = true) ↔ k0 = k
  exact beq_iff_eq
theorem goodS_mem {l : List (Int × Value)} (g : ∀ e ∈ l, GoodS w e) (k : Str) : k ∈ l.map keyS ↔ ∃ e ∈ l, (PySem.strKind P w).is k e.2 = true := by
  rw [List.mem_map]
  constructor
  · rintro ⟨e, he, q⟩
    exact ⟨e, he, (goodS_is (g e he) k).2 q⟩
  · rintro ⟨e, he, q⟩
    exact ⟨e, he, (goodS_is (g e he) k).1 q⟩
theorem SetS.setOf (R : SetS w h a S n) : h.SetOf (PySem.strKind P w) a S n := by
  obtain ⟨o, es, ep, t, ho, hx, hd, g, nd, hm, hb, hf, hn, _⟩ := R
  exact ⟨o, es, ep, t, ho, hx, hd, goodS_elems g, fun k => (hm k).trans (goodS_mem g k), hb, hf, hn⟩
end

section
variable {P : Program} {w : World} {A : Around} {E : Value → Shared → Prop} {s : Shared} {a : Addr} {S : Str → Bool} {n : Nat}

theorem storeS_at {h : Heap} {a : Addr} {o : Obj} {es es' : Array (Int × Value)} {ep : Nat} {t t' : SetTable} (ho : h.get? a = some o) (hd : o.data = .set es ep t) :
    (h.update a (Obj.putSet es' t')).get? a = some { o with data := .set es' (ep + 1) t' } := by
  have q := Heap.get?_update_self (Obj.putSet es' t') ho (by rw [putSet_of es' t' hd]; rfl)
  rw [putSet_of es' t' hd] at q
  exact q

theorem setS_add_tail {g : Bool → Sem Unit} (hg : ∀ (b : Bool) (s₁ : Shared) (Q' : Unit → Shared → Prop), Q' () s₁ → wpAny (model P w) A (g b) Q' E s₁)
    {o : Obj} {es : Array (Int × Value)} {ep : Nat} {t : SetTable} (ho : s.heap.get? a = some o) (hex : o.ExactSet) (hd : o.data = .set es ep t)
    {es1 : Array (Int × Value)} {t2 : SetTable} {S' : Str → Bool} (g1 : ∀ e ∈ es1.toList, GoodS w e) (nd1 : (es1.toList.map keyS).Nodup) (m1 : ∀ k, S' k = true ↔ k ∈ es1.toList.map keyS)
    (hb1 : es1.size < scanBound) (hf2 : t2.fits es1.size = true) (hr : Ris t2.place.toList) (hl : w.params.followText "set-order" = true ∨ t2.led = true) {wasDummy : Bool} {R : Option Bool → Shared → Prop}
    (hR : ∀ h', Heap.SameBut a s.heap h' → SetS w h' a S' es1.size → R (some true) { s with heap := h' }) :
    wpAny (model P w) A (do
        storeSet a es1 t2
        if (!wasDummy && t2.tooFull) = true then do
            g (relayAll t2 es1 (SetTable.grown es1.size)).2.2
            storeSet a (relayAll t2 es1 (SetTable.grown es1.size)).1 (relayAll t2 es1 (SetTable.grown es1.size)).2.1
            pure (some true)
          else pure (some true)) R E s := by
  refine wpAny_bind (wpAny_storeSet_of ho hd ?_ (fits_of_scanBound hb1))
  have ho1 := storeS_at (es' := es1) (t' := t2) ho hd
  have sb1 := Heap.SameBut.update s.heap a (Obj.putSet es1 t2)
  split
  · have pm := relayAll_perm t2 es1 (SetTable.grown es1.size)
    have hf3 := relayAll_fits t2 es1 (SetTable.grown es1.size)
    have hr3 := relayAll_ris t2 es1 (SetTable.grown es1.size)
    have hl3 := relayAll_led t2 es1 (SetTable.grown es1.size)
    generalize relayAll t2 es1 (SetTable.grown es1.size) = Z at pm hf3 hr3 hl3 ⊢
    obtain ⟨es2, t3, gave⟩ := Z
    dsimp only at pm hf3 hr3 hl3 ⊢
    have hsz : es2.size = es1.size := by rw [← Array.length_toList, pm.length_eq, Array.length_toList]
    have hb2 : es2.size < scanBound := by rw [hsz]; exact hb1
    refine wpAny_bind (hg _ _ _ ?_)
    refine wpAny_bind (wpAny_storeSet_of ho1 rfl ?_ (fits_of_scanBound hb2))
    have ho2 := storeS_at (es' := es2) (t' := t3) ho1 rfl
    refine wpAny_pure (hR _ (sb1.trans (Heap.SameBut.update _ a _)) ?_)
    exact ⟨_, es2, _, t3, ho2, hex, rfl, fun e he => g1 e (pm.mem_iff.mp he), (pm.map keyS).nodup_iff.mpr nd1, fun k => (m1 k).trans (pm.map keyS).mem_iff.symm, hb2, hf3, hsz, hr3,
      hl.imp id fun z => by rw [hl3]; exact z⟩
  · exact wpAny_pure (hR _ sb1 ⟨_, es1, _, t2, ho1, hex, rfl, g1, nd1, m1, hb1, hf2, rfl, hr, hl⟩)

theorem setS_add_hashed {k : Str} {tk : Tok} {Q : Bool → Shared → Prop} (R : SetS w s.heap a S n) (room : n + 1 < scanBound)
    (hQ : ∀ h', Heap.SameBut a s.heap h' → SetS w h' a (fun j => S j || decide (j = k)) (if S k = true then n else n + 1) → Q (!S k) { s with heap := h' }) :
    wpAny (model P w) A (setAddHashed a (.str k tk) ((PySem.strKind P w).hash k)) Q E s := by
  obtain ⟨o, es, ep, t, ho, hex, hd, g, nd, hm, hb, hf, hn, hr, hl⟩ := R
  have hkey : (PySem.strKind P w).is k (.str k tk) = true := strKind_is P w k tk
  have hsc : (Value.str k tk).scannable = true := rfl
  have hel : ElemsOf (PySem.strKind P w) es.toList := goodS_elems g
  unfold setAddHashed setAddHashedIn
  refine wpAny_holding (wpAny_bind (wpAny_setState_of ho hd hf ?_))
  dsimp only
  rw [byScan_of hsc hb hel]
  simp only [↓reduceIte]
  unfold setAddByScan
  refine wpAny_bind ?_
  refine wpAny_bind (wpAny_rule ?_)
  refine wpAny_bind (wpAny_setScan_of hkey ho hd hf hel ?_)
  cases hfi : List.findIdx? (fun e => (PySem.strKind P w).is k e.2) es.toList with
  | some j =>
    dsimp only
    obtain ⟨hj, pj, _⟩ := List.findIdx?_eq_some_iff_getElem.mp hfi
    have hSk : S k = true := (hm k).2 ((goodS_mem (P := P) (w := w) g k).2 ⟨es.toList[j], List.getElem_mem hj, pj⟩)
    refine wpAny_pure (wpAny_pure ?_)
    have q := hQ s.heap (Heap.SameBut.refl a s.heap) ⟨o, es, ep, t, ho, hex, hd, g, nd, fun i => by
      rw [Bool.or_eq_true, decide_eq_true_eq, ← hm i]
      exact ⟨fun z => z.elim id (fun e => e ▸ hSk), .inl⟩, hb, hf, by rw [if_pos hSk]; exact hn, hr, hl⟩
    rw [hSk] at q
    exact q
  | none =>
    dsimp only
    have hnk : k ∉ es.toList.map keyS := fun z => by
      obtain ⟨e, he, q⟩ := (goodS_mem (P := P) (w := w) g k).1 z
      have c := List.findIdx?_eq_none_iff.mp hfi e he
      rw [q] at c
      cases c
    have hSk : S k = false := by
      cases q : S k with
      | false => rfl
      | true => exact absurd ((hm k).1 q) hnk
    have hgw : ∀ (b : Bool) {s₁ : Shared} {Q' : Unit → Shared → Prop}, Q' () s₁ → wpAny (model P w) A (match b with | true => rule "set.scan.the-table-gave-way" | false => pure ()) Q' E s₁ :=
      fun b s₁ Q' q => by cases b <;> first | exact wpAny_pure q | exact wpAny_rule q
    have pm := layNew_perm t es ((PySem.strKind P w).hash k) (.str k tk)
    have hf1 := layNew_fits t es ((PySem.strKind P w).hash k) (.str k tk)
    have hr1 := layNew_ris t es ((PySem.strKind P w).hash k) (.str k tk) hr
    have hl1 := layNew_led t es ((PySem.strKind P w).hash k) (.str k tk)
    generalize layNew t es ((PySem.strKind P w).hash k) (.str k tk) = Z at pm hf1 hr1 hl1 ⊢
    obtain ⟨es1, t1, wasDummy, gave⟩ := Z
    dsimp only at pm hf1 hr1 hl1 ⊢
    rw [Array.toList_push] at pm
    have pc : es1.toList.Perm (((PySem.strKind P w).hash k, Value.str k tk) :: es.toList) := pm.trans (List.perm_append_singleton _ _)
    have pk : (es1.toList.map keyS).Perm (k :: es.toList.map keyS) := pc.map keyS
    have g1 : ∀ e ∈ es1.toList, GoodS w e := fun e he => by
      rcases List.mem_cons.mp (pc.mem_iff.mp he) with z | z
      · rw [z]; exact ⟨k, tk, rfl, rfl⟩
      · exact g e z
    have nd1 : (es1.toList.map keyS).Nodup := pk.nodup_iff.mpr (List.nodup_cons.mpr ⟨hnk, nd⟩)
    have m1 : ∀ i, (S i || decide (i = k)) = true ↔ i ∈ es1.toList.map keyS := fun i => by
      rw [Bool.or_eq_true, decide_eq_true_eq, hm i, pk.mem_iff, List.mem_cons]
      exact Or.comm
    have hsz : es1.size = n + 1 := by rw [← Array.length_toList, pc.length_eq, List.length_cons, Array.length_toList, hn]
    have hb1 : es1.size < scanBound := by rw [hsz]; exact room
    have hled : w.params.followText "set-order" = true ∨ t1.led = true := hl.imp id fun z => by rw [hl1]; exact z
    have fin : ∀ h', Heap.SameBut a s.heap h' → SetS w h' a (fun j => S j || decide (j = k)) es1.size → Q true { s with heap := h' } := fun h' sb r => by
      have q := hQ h' sb
      rw [hSk] at q
      rw [hsz] at r
      exact q r
    refine wpAny_bind (hgw _ ?_)
    split
    · refine wpAny_bind ?_
      rw [hashByValue_scannable 8 hsc]
      refine wpAny_pure ?_
      refine setS_add_tail ?_ ho hex hd g1 nd1 m1 hb1 ?_ ?_ ?_ ?_
      · intro b s₁ Q' q; cases b <;> first | exact wpAny_pure q | exact wpAny_rule q
      · first | (split <;> first | exact hf1 | exact SetTable.fits_plain_off hf1) | exact hf1
      · first | (split <;> exact hr1) | exact hr1
      · first | (split <;> exact hled) | exact hled
      · intro h' sb r; dsimp only; exact wpAny_pure (fin h' sb r)
    · refine wpAny_bind (wpAny_pure ?_)
      simp only [↓reduceIte]
      refine setS_add_tail ?_ ho hex hd g1 nd1 m1 hb1 hf1 hr1 hled ?_
      · intro b s₁ Q' q; cases b <;> first | exact wpAny_pure q | exact wpAny_rule q
      · intro h' sb r; dsimp only; exact wpAny_pure (fin h' sb r)


end
theorem setS_new_at {w : World} {h : Heap} {a : Addr} {ns : List Str} (ho : h.get? a = some { cls := .type "set", dict := none, data := .set #[] 0 (.fresh 0 0 (!w.params.followText "set-order")) }) : SetS w h a (fun j => decide (j ∈ ns.take 0)) 0 :=
  ⟨_, #[], 0, _, ho, ⟨rfl, rfl, rfl⟩, rfl, (fun e he => by simp at he), (by simp), (fun k => by simp), (by decide), (by rfl), rfl, List.Pairwise.nil, by
    show _ ∨ (!w.params.followText "set-order") = true
    cases w.params.followText "set-order"
    · exact .inr rfl
    · exact .inl rfl⟩
section
variable {P : Program} {w : World} {A : Around} {E : Value → Shared → Prop} {s : Shared}
theorem set_update_strs {I : Addr} {fp wr : List Addr} {G : Array GenState → Array GenState → Prop} {n : Nat} {Pv : Nat → Value → Prop} {St : Nat → Shared → Prop} {R : Result → Shared → Prop}
    (W : WalksS P w A.in1 I fp wr G n Pv St) (S : Addr) (hSf : S ∉ fp) (ns : List Str) (hn : n = ns.length) (hb : ns.length + 1 < scanBound) (hval : ∀ i v, Pv i v → ∃ k t, ns[i]? = some k ∧ v = .str k t) :
    ∀ (k i : Nat) (s : Shared), n - i = k → i ≤ n → St i s → (∃ c, c ≤ i ∧ SetS w s.heap S (fun j => decide (j ∈ ns.take i)) c) →
      (∀ s' c, Moved (S :: wr) G s s' → c ≤ n → SetS w s'.heap S (fun j => decide (j ∈ ns)) c → R (.ok (.ret .none)) s') →
      codeAny (model P w) A (.builtin "set.update.loop" ⟨[.ref S, .ref I], []⟩) R s := by
  have hSw : S ∉ wr := fun h => hSf (W.sub _ h)
  have hsub : ∀ b ∈ wr, b ∈ S :: wr := fun b hb => List.mem_cons_of_mem _ hb
  intro k
  induction k with
  | zero =>
    intro i s hk' hi hst ⟨c, hc, hS⟩ hR
    have hin : i = n := by omega
    subst hin
    refine codeAny_builtin F.entry_set_update_loop ?_
    rw [Around.under_plainId F.plain_set_update_loop _]
    show wpAny _ A.in1 (pyNext (.ref I) >>= _) _ _ s
    refine wpAny_bind (W.done s _ _ hst fun s' hm => ?_)
    show wpAny _ A.in1 (ret Value.none) _ _ s'
    have e : ns.take i = ns := List.take_of_length_le (by omega)
    rw [e] at hS
    exact wpAny_pure (hR s' c (hm.mono hsub) hc (hS.at fun o e => hm.heap S o hSw e))
  | succ k ih =>
    intro i s hk' hi hst ⟨c, hc, hS⟩ hR
    have hlt : i < n := by omega
    refine codeAny_builtin F.entry_set_update_loop ?_
    rw [Around.under_plainId F.plain_set_update_loop _]
    show wpAny _ A.in1 (pyNext (.ref I) >>= _) _ _ s
    refine wpAny_bind (W.item i s _ _ hlt hst fun v s' hP hst' hm => ?_)
    obtain ⟨z, t, hz, rfl⟩ := hval i v hP
    have hS' : SetS w s'.heap S (fun j => decide (j ∈ ns.take i)) c := hS.at fun o e => hm.heap S o hSw e
    show wpAny _ A.in1 (holding [Value.str z t] (setAdd S (.str z t)) >>= _) _ _ s'
    refine wpAny_bind (wpAny_holding ?_)
    unfold setAdd
    refine wpAny_holding ?_
    refine wpAny_bind ((PySem.strKind P w).pyHash (k := z) (strKind_is _ _ _ _) ?_)
    refine setS_add_hashed (s := { s' with toks := s'.toks + 1 }) hS' (by omega) fun h' hsb hS2 => ?_
    have hS3 : SetS w h' S (fun j => decide (j ∈ ns.take (i + 1))) (if decide (z ∈ ns.take i) = true then c else c + 1) := hS2.congr fun j => by
      rw [List.take_add_one, hz]
      simp [List.mem_append]
    have hc3 : (if decide (z ∈ ns.take i) = true then c else c + 1) ≤ i + 1 := by
      split <;> omega
    refine wpAny_pure ⟨plainId_quiet F.plain_set_update_loop _, ih (i + 1) _ (by omega) hlt (W.frame _ s' _ _ hst' (Nat.le_succ _) fun b hb o e => ?_) ⟨_, hc3, hS3⟩ fun s'' c2 hm'' hc'' hS'' => ?_⟩
    · rw [hsb.2 b (fun h : b = S => hSf (by rw [← h]; exact hb))]; exact e
    · refine hR s'' c2 (Moved.trans W.gtrans ((hm.mono hsub).then_heap (Nat.le_succ _) fun b o hb e => ?_) hm'') hc'' hS''
      rw [hsb.2 b (fun h : b = S => hb (by rw [h]; exact List.mem_cons_self))]; exact e

theorem code_set_ledS1 (a : Value) {Q₁ : Value → Shared → Prop}
    (h : Q₁ (.ref s.heap.objs.size) { s with heap := s.heap.push { cls := .type "set", dict := none, data := .set #[] 0 (.fresh 0 0 (!w.params.followText "set-order")) } }) :
    codeAny (model P w) A (.call (.builtin "set.__new__") ⟨[.type "set", a], []⟩) (wants Q₁ E) s := by
  refine codeAny_of_tree ?_
  show wpAny _ A.in1 (do checkBuiltinCall "set.__new__" ⟨[.type "set", a], []⟩; again (.builtin "set.__new__" ⟨[.type "set", a], []⟩)) _ _ s
  refine wpAny_bind (wpAny_of_eq (F.newCall_set_1 a) (wpAny_pure ⟨plainId_quiet F.plain_set_new _, codeAny_builtin F.entry_set_new ?_⟩))
  rw [Around.under_plainId F.plain_set_new _]
  unfold Builtin.«set.__new__» Builtin.Frozenset.newClass
  have hsub := sub_set_self
  obtain ⟨hp, g, d, tk, os⟩ := s
  dsimp only
  wp_walk
  refine wpAny_askSetting (wpAny_pure ?_)
  dsimp only
  simp only [newObj]
  refine wpAny_bind (wpAny_alloc (wpAny_pure ?_))
  exact wpAny_pure h


set_option maxRecDepth 100000 in
set_option maxHeartbeats 3200000 in
theorem call_set_tupS {l : Addr} {items : Array Value} (ns : List Str) {Q : Value → Shared → Prop} (hh : A.handled = none) (hl : s.heap.IsTuple l items) (hit : PyProof.Rows.StrsAre items.toList ns) (hb : ns.length + 1 < scanBound)
    (h : ∀ (h' : Heap) (tk c : Nat), SetS w h' s.heap.objs.size (fun j => decide (j ∈ ns)) c → c ≤ ns.length → (∀ b o, s.heap.get? b = some o → h'.get? b = some o) → Q (.ref s.heap.objs.size) { s with heap := h', toks := tk }) :
    wpAny (model P w) A (call (.type "set") [.ref l]) Q E s := by
  have hisz : items.size = ns.length := by
    have q := (StrsAre.len_eq hit)
    rw [Array.length_toList] at q
    exact q
  obtain ⟨c, tl, hmro⟩ := F.called_set.mro
  have hmade := F.called_set.made
  have hsub := F.called_set.sub
  refine wpAny_call (codeAny_of_tree ?_)
  show wpAny _ _ (callAny (.type "set") _) _ _ _
  refine wpAny_pure ⟨Code.quiet_builtin _ (by decide +kernel), codeAny_builtin F.entry_type_call ?_⟩
  rw [Around.under_plain (weight_type_call_type "set" [.ref l] []) rfl]
  have h1 := F.called_set.notType
  have h2 := F.called_set.canCreate
  have hct := F.typeCall_set_1 (.ref l)
  repeat (any_goals (first | assumption | wp_step))

  refine codeAny_mono (code_set_ledS1 (.ref l) (E := E) (Q₁ := fun obj s₁ => obj = .ref s.heap.objs.size ∧ s₁ = { s with heap := s.heap.push { cls := .type "set", dict := none, data := .set #[] 0 (.fresh 0 0 (!w.params.followText "set-order")) } }) ⟨rfl, rfl⟩) fun r s₁ hr => ?_
  cases r with
  | error e => exact hr
  | ok fl =>
    cases fl with
    | ret obj =>
      obtain ⟨rfl, rfl⟩ := hr
      have hS : (s.heap.push { cls := .type "set", dict := none, data := .set #[] 0 (.fresh 0 0 (!w.params.followText "set-order")) }).get? s.heap.objs.size = some { cls := .type "set", dict := none, data := .set #[] 0 (.fresh 0 0 (!w.params.followText "set-order")) } := Heap.get?_push_size _ rfl
      have hT : Shared.TypeIs { s with heap := s.heap.push { cls := .type "set", dict := none, data := .set #[] 0 (.fresh 0 0 (!w.params.followText "set-order")) } } (.ref s.heap.objs.size) "set" := ⟨_, hS, rfl⟩
      have hli := F.called_set.init.lookup
      have hbi := F.called_set.init.bind (.ref s.heap.objs.size)
      repeat (any_goals (first | assumption | wp_step))

      refine codeAny_mono (codeAny_call_builtin (R := wants (fun r s₂ => r = .none ∧ ∃ h' tk c, s₂ = { s with heap := h', toks := tk } ∧ SetS w h' s.heap.objs.size (fun j => decide (j ∈ ns)) c ∧ c ≤ ns.length ∧
          (∀ b o, s.heap.get? b = some o → h'.get? b = some o)) E) F.called_set.init.plain F.entry_set_init (check_set_init_1 hT ?_)) fun r₂ s₂ hr₂ => ?_
      · obtain ⟨ol, hol, hcl, nl, hdl⟩ := hl
        obtain ⟨ocls, odict, odata, oslots⟩ := ol
        simp only at hcl hdl
        subst hcl; subst hdl
        have hol' : (s.heap.push { cls := .type "set", dict := none, data := .set #[] 0 (.fresh 0 0 (!w.params.followText "set-order")) }).get? l = some { cls := .type "tuple", dict := odict, data := .seq items nl, slots := oslots } := Heap.get?_push_of_some _ hol
        have hsls := F.sub_tuple_set
        have hslf := F.sub_tuple_frozenset
        have hne : (Value.type "tuple" == Value.type "dict") = false := by decide
        have hl1 : (s.heap.push { cls := .type "set", dict := none, data := .set #[] 0 (.fresh 0 0 (!w.params.followText "set-order")) }).IsTuple l items := ⟨_, hol', rfl, nl, rfl⟩
        unfold Builtin.«set.__init__» noKeywords Builtin.Frozenset.updateFrom
        generalize hPI : pyIter = PI
        wp_walk
        subst hPI

        refine wpAny_pyIter_tuple hl1 ?_
        refine wpAny_bind (wpAny_runValue ?_)
        have hlS : l < s.heap.objs.size := Heap.lt_size hol
        have hh3 : A.in1.in1.in1.handled = none := by simp [hh]
        have hz1 : (s.heap.push { cls := .type "set", dict := none, data := .set #[] 0 (.fresh 0 0 (!w.params.followText "set-order")) }).objs.size = s.heap.objs.size + 1 := Heap.size_push ..
        have hneI : l ≠ (s.heap.push { cls := .type "set", dict := none, data := .set #[] 0 (.fresh 0 0 (!w.params.followText "set-order")) }).objs.size := by
          rw [Heap.size_push]; exact Nat.ne_of_lt (Nat.lt_succ_of_lt hlS)
        have hSf : s.heap.objs.size ∉ [(s.heap.push { cls := .type "set", dict := none, data := .set #[] 0 (.fresh 0 0 (!w.params.followText "set-order")) }).objs.size, l] := by
          rw [Heap.size_push]; simp only [List.mem_cons, List.mem_singleton, List.not_mem_nil, or_false, not_or]
          exact ⟨Nat.ne_of_lt (Nat.lt_succ_self _), Nat.ne_of_gt hlS⟩
        have hval : ∀ (i : Nat) (v : Value), items[i]? = some v → ∃ k t, ns[i]? = some k ∧ v = .str k t := fun i v hv => by
          have hi : i < ns.length := by rw [← hisz]; exact (Array.getElem?_eq_some_iff.mp hv).1
          obtain ⟨t, e⟩ := SS.strs_at hit i v (by rw [Array.getElem?_toList]; exact hv)
          refine ⟨ns[i], t, List.getElem?_eq_getElem hi, ?_⟩
          rw [e, List.getD_eq_getElem?_getD, List.getElem?_eq_getElem hi] <;> rfl
        refine set_update_strs ((Walks.tuple hh3 _ l hneI items).toS) s.heap.objs.size
          hSf ns hisz hb hval (items.size - 0) 0 _ (by omega) (Nat.zero_le _)
          ⟨⟨_, Heap.get?_push_size _ rfl, rfl, rfl⟩, (hl1.push _)⟩ ?hS0 ?hR
        case hS0 =>
          have hget : ((s.heap.push { cls := .type "set", dict := none, data := .set #[] 0 (.fresh 0 0 (!w.params.followText "set-order")) }).push { cls := .type "tuple_iterator", data := .fields #[.ref l, .int 0 0] }).get? s.heap.objs.size
              = some { cls := .type "set", dict := none, data := .set #[] 0 (.fresh 0 0 (!w.params.followText "set-order")) } := Heap.get?_push_of_some _ hS
          exact ⟨0, Nat.le_refl 0, setS_new_at hget⟩
        case hR =>
          intro s' c' hm hc' hS'
          obtain ⟨h', g2, d', tk', os'⟩ := s'
          have eg : g2 = s.gens := hm.gens
          have ed : d' = s.drawn := hm.drawn
          have eo : os' = s.os := hm.os
          subst eg; subst ed; subst eo
          show wpAny _ _ _ _ _ _
          refine wpAny_pure ?_
          show wpAny _ _ (ret Value.none) _ _ _
          rw [hisz] at hc'
          refine wpAny_pure ⟨rfl, h', tk', c', rfl, hS', hc', fun b o e => ?_⟩
          have hb0 : b < s.heap.objs.size := Heap.lt_size e
          have hb1 : b ≠ s.heap.objs.size := Nat.ne_of_lt hb0
          have hb2 : b ≠ (s.heap.push { cls := .type "set", dict := none, data := .set #[] 0 (.fresh 0 0 (!w.params.followText "set-order")) }).objs.size := by
            rw [Heap.size_push]; exact Nat.ne_of_lt (Nat.lt_succ_of_lt hb0)
          exact hm.heap b o (by simp only [List.mem_cons, List.mem_singleton, List.not_mem_nil, or_false, not_or]; exact ⟨hb1, hb2⟩) (Heap.get?_push_of_some _ (Heap.get?_push_of_some _ e))

      · cases r₂ with
        | error e => exact hr₂
        | ok fl₂ =>
          cases fl₂ with
          | ret r =>
            obtain ⟨rfl, h', tk, c', rfl, hS', hc', hk'⟩ := hr₂
            repeat (any_goals (first | assumption | wp_step))
            exact h _ _ _ hS' hc' hk'
          | _ => exact hr₂.elim
    | _ => exact hr.elim

set_option maxRecDepth 100000 in
set_option maxHeartbeats 3200000 in
theorem call_set_lstS {l : Addr} {items : Array Value} (ns : List Str) {Q : Value → Shared → Prop} (hh : A.handled = none) (hl : s.heap.IsList l items) (hit : PyProof.Rows.StrsAre items.toList ns) (hb : ns.length + 1 < scanBound)
    (h : ∀ (h' : Heap) (tk c : Nat), SetS w h' s.heap.objs.size (fun j => decide (j ∈ ns)) c → c ≤ ns.length → (∀ b o, s.heap.get? b = some o → h'.get? b = some o) → Q (.ref s.heap.objs.size) { s with heap := h', toks := tk }) :
    wpAny (model P w) A (call (.type "set") [.ref l]) Q E s := by
  have hisz : items.size = ns.length := by
    have q := (StrsAre.len_eq hit)
    rw [Array.length_toList] at q
    exact q
  obtain ⟨c, tl, hmro⟩ := F.called_set.mro
  have hmade := F.called_set.made
  have hsub := F.called_set.sub
  refine wpAny_call (codeAny_of_tree ?_)
  show wpAny _ _ (callAny (.type "set") _) _ _ _
  refine wpAny_pure ⟨Code.quiet_builtin _ (by decide +kernel), codeAny_builtin F.entry_type_call ?_⟩
  rw [Around.under_plain (weight_type_call_type "set" [.ref l] []) rfl]
  have h1 := F.called_set.notType
  have h2 := F.called_set.canCreate
  have hct := F.typeCall_set_1 (.ref l)
  repeat (any_goals (first | assumption | wp_step))

  refine codeAny_mono (code_set_ledS1 (.ref l) (E := E) (Q₁ := fun obj s₁ => obj = .ref s.heap.objs.size ∧ s₁ = { s with heap := s.heap.push { cls := .type "set", dict := none, data := .set #[] 0 (.fresh 0 0 (!w.params.followText "set-order")) } }) ⟨rfl, rfl⟩) fun r s₁ hr => ?_
  cases r with
  | error e => exact hr
  | ok fl =>
    cases fl with
    | ret obj =>
      obtain ⟨rfl, rfl⟩ := hr
      have hS : (s.heap.push { cls := .type "set", dict := none, data := .set #[] 0 (.fresh 0 0 (!w.params.followText "set-order")) }).get? s.heap.objs.size = some { cls := .type "set", dict := none, data := .set #[] 0 (.fresh 0 0 (!w.params.followText "set-order")) } := Heap.get?_push_size _ rfl
      have hT : Shared.TypeIs { s with heap := s.heap.push { cls := .type "set", dict := none, data := .set #[] 0 (.fresh 0 0 (!w.params.followText "set-order")) } } (.ref s.heap.objs.size) "set" := ⟨_, hS, rfl⟩
      have hli := F.called_set.init.lookup
      have hbi := F.called_set.init.bind (.ref s.heap.objs.size)
      repeat (any_goals (first | assumption | wp_step))

      refine codeAny_mono (codeAny_call_builtin (R := wants (fun r s₂ => r = .none ∧ ∃ h' tk c, s₂ = { s with heap := h', toks := tk } ∧ SetS w h' s.heap.objs.size (fun j => decide (j ∈ ns)) c ∧ c ≤ ns.length ∧
          (∀ b o, s.heap.get? b = some o → h'.get? b = some o)) E) F.called_set.init.plain F.entry_set_init (check_set_init_1 hT ?_)) fun r₂ s₂ hr₂ => ?_
      · obtain ⟨ol, hol, hcl, nl, hdl⟩ := hl
        obtain ⟨ocls, odict, odata, oslots⟩ := ol
        simp only at hcl hdl
        subst hcl; subst hdl
        have hol' : (s.heap.push { cls := .type "set", dict := none, data := .set #[] 0 (.fresh 0 0 (!w.params.followText "set-order")) }).get? l = some { cls := .type "list", dict := odict, data := .seq items nl, slots := oslots } := Heap.get?_push_of_some _ hol
        have hsls := PySem.F.sub_list_set
        have hslf := PySem.F.sub_list_frozenset
        have hne : (Value.type "list" == Value.type "dict") = false := by decide
        have hl1 : (s.heap.push { cls := .type "set", dict := none, data := .set #[] 0 (.fresh 0 0 (!w.params.followText "set-order")) }).IsList l items := ⟨_, hol', rfl, nl, rfl⟩
        unfold Builtin.«set.__init__» noKeywords Builtin.Frozenset.updateFrom
        generalize hPI : pyIter = PI
        wp_walk
        subst hPI

        refine wpAny_pyIter_list hl1 ?_
        refine wpAny_bind (wpAny_runValue ?_)
        have hlS : l < s.heap.objs.size := Heap.lt_size hol
        have hh3 : A.in1.in1.in1.handled = none := by simp [hh]
        have hz1 : (s.heap.push { cls := .type "set", dict := none, data := .set #[] 0 (.fresh 0 0 (!w.params.followText "set-order")) }).objs.size = s.heap.objs.size + 1 := Heap.size_push ..
        have hneI : l ≠ (s.heap.push { cls := .type "set", dict := none, data := .set #[] 0 (.fresh 0 0 (!w.params.followText "set-order")) }).objs.size := by
          rw [Heap.size_push]; exact Nat.ne_of_lt (Nat.lt_succ_of_lt hlS)
        have hSf : s.heap.objs.size ∉ [(s.heap.push { cls := .type "set", dict := none, data := .set #[] 0 (.fresh 0 0 (!w.params.followText "set-order")) }).objs.size, l] := by
          rw [Heap.size_push]; simp only [List.mem_cons, List.mem_singleton, List.not_mem_nil, or_false, not_or]
          exact ⟨Nat.ne_of_lt (Nat.lt_succ_self _), Nat.ne_of_gt hlS⟩
        have hval : ∀ (i : Nat) (v : Value), items[i]? = some v → ∃ k t, ns[i]? = some k ∧ v = .str k t := fun i v hv => by
          have hi : i < ns.length := by rw [← hisz]; exact (Array.getElem?_eq_some_iff.mp hv).1
          obtain ⟨t, e⟩ := SS.strs_at hit i v (by rw [Array.getElem?_toList]; exact hv)
          refine ⟨ns[i], t, List.getElem?_eq_getElem hi, ?_⟩
          rw [e, List.getD_eq_getElem?_getD, List.getElem?_eq_getElem hi] <;> rfl
        refine set_update_strs ((Walks.list hh3 _ l hneI items).toS) s.heap.objs.size
          hSf ns hisz hb hval (items.size - 0) 0 _ (by omega) (Nat.zero_le _)
          ⟨⟨_, Heap.get?_push_size _ rfl, rfl, rfl⟩, (hl1.push _)⟩ ?hS0 ?hR
        case hS0 =>
          have hget : ((s.heap.push { cls := .type "set", dict := none, data := .set #[] 0 (.fresh 0 0 (!w.params.followText "set-order")) }).push { cls := .type "list_iterator", data := .fields #[.ref l, .int 0 0] }).get? s.heap.objs.size
              = some { cls := .type "set", dict := none, data := .set #[] 0 (.fresh 0 0 (!w.params.followText "set-order")) } := Heap.get?_push_of_some _ hS
          exact ⟨0, Nat.le_refl 0, setS_new_at hget⟩
        case hR =>
          intro s' c' hm hc' hS'
          obtain ⟨h', g2, d', tk', os'⟩ := s'
          have eg : g2 = s.gens := hm.gens
          have ed : d' = s.drawn := hm.drawn
          have eo : os' = s.os := hm.os
          subst eg; subst ed; subst eo
          show wpAny _ _ _ _ _ _
          refine wpAny_pure ?_
          show wpAny _ _ (ret Value.none) _ _ _
          rw [hisz] at hc'
          refine wpAny_pure ⟨rfl, h', tk', c', rfl, hS', hc', fun b o e => ?_⟩
          have hb0 : b < s.heap.objs.size := Heap.lt_size e
          have hb1 : b ≠ s.heap.objs.size := Nat.ne_of_lt hb0
          have hb2 : b ≠ (s.heap.push { cls := .type "set", dict := none, data := .set #[] 0 (.fresh 0 0 (!w.params.followText "set-order")) }).objs.size := by
            rw [Heap.size_push]; exact Nat.ne_of_lt (Nat.lt_succ_of_lt hb0)
          exact hm.heap b o (by simp only [List.mem_cons, List.mem_singleton, List.not_mem_nil, or_false, not_or]; exact ⟨hb1, hb2⟩) (Heap.get?_push_of_some _ (Heap.get?_push_of_some _ e))

      · cases r₂ with
        | error e => exact hr₂
        | ok fl₂ =>
          cases fl₂ with
          | ret r =>
            obtain ⟨rfl, h', tk, c', rfl, hS', hc', hk'⟩ := hr₂
            repeat (any_goals (first | assumption | wp_step))
            exact h _ _ _ hS' hc' hk'
          | _ => exact hr₂.elim
    | _ => exact hr.elim

end
end Lt

set_option maxRecDepth 100000
set_option maxHeartbeats 3200000
namespace Lt
open PySem PySem.Spec PyProof.Rows L2
def leL (a b : Tx) : Prop := ¬ b < a
theorem leL.refl (a : Tx) : leL a a := List.lt_irrefl a
theorem leL.antisymm {a b : Tx} (h : leL a b) (g : leL b a) : a = b := List.le_antisymm h g
theorem leL.total (a b : Tx) : leL a b ∨ leL b a := List.le_total a b
theorem leL.trans {a b c : Tx} (h : leL a b) (g : leL b c) : leL a c := List.le_trans h g
/-- rising lists with the same members are the same -/
theorem sorted_unique : ∀ {l m : List Tx}, l.Pairwise leL → m.Pairwise leL → l.Nodup → m.Nodup → (∀ x, x ∈ l ↔ x ∈ m) → l = m
  | [], [], _, _, _, _, _ => rfl
  | [], b :: m, _, _, _, _, h => absurd ((h b).mpr List.mem_cons_self) (by simp)
  | a :: l, [], _, _, _, _, h => absurd ((h a).mp List.mem_cons_self) (by simp)
  | a :: l, b :: m, hl, hm, nl, nm, h => by
    obtain ⟨h1, h2⟩ := List.pairwise_cons.mp hl
    obtain ⟨g1, g2⟩ := List.pairwise_cons.mp hm
    obtain ⟨n1, n2⟩ := List.nodup_cons.mp nl
    obtain ⟨k1, k2⟩ := List.nodup_cons.mp nm
    have e : a = b := by
      rcases List.mem_cons.mp ((h a).mp List.mem_cons_self) with e | ha
      · exact e
      · rcases List.mem_cons.mp ((h b).mpr List.mem_cons_self) with e | hb
        · exact e.symm
        · exact leL.antisymm (h1 b hb) (g1 a ha)
    subst e
    rw [sorted_unique h2 g2 n2 k2 fun x => ?_]
    have hx := h x
    simp only [List.mem_cons] at hx
    constructor
    · intro q
      rcases hx.mp (.inr q) with z | z
      · exact absurd (z ▸ q) n1
      · exact z
    · intro q
      rcases hx.mpr (.inr q) with z | z
      · exact absurd (z ▸ q) k1
      · exact z
theorem ltL_eq : ∀ (a b : Tx), ltL a b = decide (a < b)
  | [], [] => by simp [ltL]
  | [], _ :: _ => by simp [ltL]
  | _ :: _, [] => by simp [ltL]
  | a :: l, b :: m => by
    unfold ltL
    by_cases e : a = b
    · subst e
      rw [if_pos rfl, ltL_eq l m]
      simp [List.cons_lt_cons_iff]
    · rw [if_neg e]
      simp only [List.cons_lt_cons_iff, e, false_and, or_false]
theorem insS_mem (x : Tx) : ∀ (l : List Tx) (y : Tx), y ∈ insS x l ↔ y = x ∨ y ∈ l
  | [], y => by simp [insS]
  | z :: l, y => by
    unfold insS
    split
    · rw [List.mem_cons, insS_mem x l y, List.mem_cons]
      constructor
      · rintro (h | h | h)
        · exact .inr (.inl h)
        · exact .inl h
        · exact .inr (.inr h)
      · rintro (h | h | h)
        · exact .inr (.inl h)
        · exact .inl h
        · exact .inr (.inr h)
    · simp
theorem insS_sorted (x : Tx) : ∀ (l : List Tx), l.Pairwise leL → (insS x l).Pairwise leL
  | [], _ => by simp [insS]
  | z :: l, h => by
    obtain ⟨h1, h2⟩ := List.pairwise_cons.mp h
    unfold insS
    split
    · rename_i c
      rw [ltL_eq, decide_eq_true_eq] at c
      refine List.pairwise_cons.mpr ⟨fun y hy => ?_, insS_sorted x l h2⟩
      rcases (insS_mem x l y).mp hy with e | e
      · subst e
        rcases leL.total z y with q | q
        · exact q
        · exact absurd c q
      · exact h1 y e
    · rename_i c
      rw [ltL_eq, decide_eq_true_eq] at c
      refine List.pairwise_cons.mpr ⟨fun y hy => ?_, h⟩
      rcases List.mem_cons.mp hy with e | e
      · subst e
        exact c
      · exact leL.trans c (h1 y e)
theorem insS_nodup (x : Tx) : ∀ (l : List Tx), l.Nodup → x ∉ l → (insS x l).Nodup
  | [], _, _ => by simp [insS]
  | z :: l, h, hx => by
    obtain ⟨h1, h2⟩ := List.nodup_cons.mp h
    unfold insS
    split
    · refine List.nodup_cons.mpr ⟨fun q => ?_, insS_nodup x l h2 fun q => hx (List.mem_cons_of_mem _ q)⟩
      rcases (insS_mem x l z).mp q with e | e
      · exact hx (e ▸ List.mem_cons_self)
      · exact h1 e
    · exact List.nodup_cons.mpr ⟨hx, h⟩
theorem sortS_ok : ∀ (l : List Tx), l.Nodup → (sortS l).Pairwise leL ∧ (sortS l).Nodup ∧ ∀ x, x ∈ sortS l ↔ x ∈ l
  | [], _ => ⟨List.Pairwise.nil, List.nodup_nil, fun x => Iff.rfl⟩
  | a :: l, h => by
    obtain ⟨h1, h2⟩ := List.nodup_cons.mp h
    obtain ⟨p, n, m⟩ := sortS_ok l h2
    refine ⟨insS_sorted a _ p, insS_nodup a _ n fun q => h1 ((m a).mp q), fun x => ?_⟩
    show x ∈ insS a (sortS l) ↔ _
    rw [insS_mem, m x, List.mem_cons]
theorem nubS_ok : ∀ (l : List Tx), (nubS l).Nodup ∧ ∀ x, x ∈ nubS l ↔ x ∈ l
  | [] => ⟨List.nodup_nil, fun x => Iff.rfl⟩
  | a :: l => by
    obtain ⟨n, m⟩ := nubS_ok l
    unfold nubS
    split
    · rename_i h
      refine ⟨n, fun x => ?_⟩
      rw [m x, List.mem_cons]
      constructor
      · exact .inr
      · rintro (e | e)
        · subst e
          exact (m x).mp h
        · exact e
    · rename_i h
      exact ⟨List.nodup_cons.mpr ⟨h, n⟩, fun x => by rw [List.mem_cons, List.mem_cons, m x]⟩
theorem nodup_le {α : Type} [DecidableEq α] : ∀ {l m : List α}, l.Nodup → (∀ x ∈ l, x ∈ m) → l.length ≤ m.length
  | [], _, _, _ => Nat.zero_le _
  | a :: l, m, h, s => by
    obtain ⟨h1, h2⟩ := List.nodup_cons.mp h
    have hm := s a List.mem_cons_self
    have := nodup_le (l := l) (m := m.erase a) h2 fun x hx => (List.mem_erase_of_ne (fun e : x = a => h1 (by rw [← e]; exact hx))).mpr (s x (List.mem_cons_of_mem _ hx))
    rw [List.length_erase_of_mem hm] at this
    have := List.length_pos_of_mem hm
    simp only [List.length_cons]
    omega
theorem nodup_len {α : Type} [DecidableEq α] {l m : List α} (h : l.Nodup) (g : m.Nodup) (s : ∀ x, x ∈ l ↔ x ∈ m) : l.length = m.length :=
  Nat.le_antisymm (nodup_le h fun x hx => (s x).mp hx) (nodup_le g fun x hx => (s x).mpr hx)
theorem sx_cps (x : Tx) : (sx x).cps.toList = x := by simp [sx]
theorem cps_sx (x : Str) : sx x.cps.toList = x := by cases x; simp [sx]
theorem nodup_map {l : List Tx} (h : l.Nodup) : (l.map sx).Nodup := by
  rw [List.nodup_iff_pairwise_ne] at h ⊢
  rw [List.pairwise_map]
  exact h.imp fun {a b} hab e => hab (sx_inj.mp e)
theorem nodup_cps {l : List Str} (h : l.Nodup) : (l.map fun y => y.cps.toList).Nodup := by
  rw [List.nodup_iff_pairwise_ne] at h ⊢
  rw [List.pairwise_map]
  refine h.imp fun {a b} hab e => hab ?_
  rw [← cps_sx a, ← cps_sx b, e]
theorem rising_pairwise : ∀ (p : Str) (l : List Str), risingS p l = true → ((p :: l).map fun y => y.cps.toList).Pairwise leL
  | p, [], _ => by simp
  | p, x :: r, h => by
    have h' : (!ltCps x.cps.toList p.cps.toList && risingS x r) = true := h
    rw [Bool.and_eq_true, Bool.not_eq_true', ltCps_eq, decide_eq_false_iff_not] at h'
    have ih := rising_pairwise x r h'.2
    refine List.pairwise_cons.mpr ⟨fun y hy => ?_, ih⟩
    rcases List.mem_cons.mp hy with e | e
    · subst e
      exact h'.1
    · exact leL.trans h'.1 ((List.pairwise_cons.mp ih).1 y e)
theorem sortedS_unique {ys : List Str} {xs : List Tx} (h : sortedS ys = true) (n : ys.Nodup) (m : ∀ k, k ∈ ys ↔ k ∈ xs.map sx) : ys = (sortS (nubS xs)).map sx := by
  obtain ⟨n1, m1⟩ := nubS_ok xs
  obtain ⟨p2, n2, m2⟩ := sortS_ok (nubS xs) n1
  have hp : (ys.map fun y => y.cps.toList).Pairwise leL := by
    cases ys with
    | nil => exact List.Pairwise.nil
    | cons a l => exact rising_pairwise a l h
  have e : (ys.map fun y => y.cps.toList) = sortS (nubS xs) := sorted_unique hp p2 (nodup_cps n) n2 fun x => by
    rw [m2, m1, List.mem_map]
    constructor
    · rintro ⟨y, hy, e⟩
      obtain ⟨z, hz, ez⟩ := List.mem_map.mp ((m y).mp hy)
      subst ez
      rw [sx_cps] at e
      exact e ▸ hz
    · intro hx
      exact ⟨sx x, (m _).mpr (List.mem_map.mpr ⟨x, hx, rfl⟩), sx_cps x⟩
  rw [← e, List.map_map]
  conv => lhs; rw [← List.map_id ys]
  exact List.map_congr_left fun y _ => (cps_sx y).symm
section
variable {P : Program} {w : World} {A : Around} {E : Value → Shared → Prop} {s : Shared} {a : Addr}
theorem sorted_setS {S : Str → Bool} {n : Nat} {Q : Value → Shared → Prop} (R : SetS w s.heap a S n) (hh : A.handled = none) (h64 : n < 64)
    (hQ : ∀ s' p (out : Array Value) (c : Nat) (ys : List Str), (∀ b o, s.heap.get? b = some o → s'.heap.get? b = some o) → s'.gens = s.gens → s'.os = s.os → s.heap.objs.size ≤ p →
      s'.heap.get? p = some (seqObj "list" out c) → StrsAre out.toList ys → sortedS ys = true → ys.Nodup → (∀ k, k ∈ ys ↔ S k = true) → Q (.ref p) s') :
    wpAny (model P w) A (call (.builtin "sorted") [.ref a]) Q E s := by
  obtain ⟨o, es, ep, t, ho, hex, hd, g, nd, hm, hb, hf, hn, hr, hl⟩ := R
  refine Calls.call_function_entry kind_sorted plain_sorted entry_sorted (args_sorted1 _) ?_
  unfold Builtin.«sorted»
  refine wpAny_bind (m := checkCount "sorted" 1 1 _) (wpAny_pure ?_)
  refine wpAny_bind (collect_set (A := A.in1) hh ⟨o, ho, hex.1, hd⟩ hf hb hr hl fun s1 vs k1 hz g1 o1 pm => ?_)
  have hvl : vs.length = n := by rw [pm.length_eq, List.length_map, Array.length_toList]; exact hn
  have hI : StrsAre vs (vs.map strOf) := strsAre_map vs fun v hv => by
    obtain ⟨e, he, q⟩ := List.mem_map.mp (pm.mem_iff.mp hv)
    obtain ⟨k, tk, h1, _⟩ := g e he
    exact ⟨k, tk, by rw [← q]; exact h1⟩
  have pk : (vs.map strOf).Perm (es.toList.map keyS) := by
    have q := pm.map strOf
    rw [List.map_map] at q
    refine q.trans (List.Perm.of_eq (List.map_congr_left fun e he => ?_))
    obtain ⟨k, tk, h1, _⟩ := g e he
    show strOf e.2 = keyS e
    unfold keyS
    rw [h1]
    rfl
  refine wpAny_bind (wpAny_newList ?_ (by rw [hvl, sizeLine_eq]; omega))
  have hoL : (s1.heap.push (seqObj "list" vs.toArray 0)).get? s1.heap.objs.size = some (seqObj "list" vs.toArray 0) := Heap.get?_push_size _ rfl
  refine wpAny_bind (wpAny_holding (wpAny_call_entry slot_list_sort ⟨_, hoL, rfl⟩ entry_list_sort (list_sort_treeK strKind_oneLt hoL hI.keysOf (fun v₁ v₂ rest e => keyKind_strs (by rw [← e]; exact hI)) (by rw [hvl]; exact h64) fun st' a1 a2 => ⟨_, rfl, ?_⟩) (args_list_sort _)))
  obtain ⟨ys, b1, b2, b3⟩ := sorted_out_str hI a1 a2
  obtain ⟨c, hc⟩ := sortedHeap_at (vs := vs) (out := (arrOf st').map (·.2)) hoL
  have pn : ys.Perm (es.toList.map keyS) := b2.trans pk
  refine wpAny_pure ⟨_, rfl, hQ _ s1.heap.objs.size _ c ys (fun b u e => ?_) g1 o1 hz hc b1 b3 (pn.nodup_iff.mpr nd) fun k => by rw [pn.mem_iff, ← hm k]⟩
  have q := k1 b u e
  have hlt := Heap.lt_size q
  show (sortedHeap (s1.heap.push (seqObj "list" vs.toArray 0)) s1.heap.objs.size vs _).get? b = some u
  rw [sortedHeap_old (Nat.ne_of_lt hlt) (by rw [size_push']; exact Nat.lt_succ_of_lt hlt)]
  exact Heap.get?_push_of_some _ q
end

section
variable {X : Cx} {ca : CA} {a : Expr} {ta : TE} {p p2 q pos : Pos}
/-- what e of len(set(e)), sorted(set(e)) must be -/
def tSetArg (K : PySem.W.Frag) (ta : TE) (k : List Str → VK → Hp → Prop) : TE := fun σ H Q => ta σ H fun x H1 => ∃ l, ∃ xs : List Str, x = .ref l ∧ (SqL K H1 l (xs.map V.str) ∨ SqT K H1 l (xs.map V.str)) ∧ xs.length + 1 < scanBound ∧ k xs Q H1
/-- set(e) -/
theorem set_ok {pins : List (Addr × Obj)} {σ : L2.St} {H : Hp} {s : Shared} {l : Addr} {xs : List Str} {Q : Value → Shared → Prop} (hc : X.calm = true) (I : Inv X pins σ H s) (hq : SqL X.K H l (xs.map V.str) ∨ SqT X.K H l (xs.map V.str)) (hb : xs.length + 1 < scanBound)
    (h : ∀ (h' : Heap) (tk c : Nat), SetS X.w h' s.heap.objs.size (fun j => decide (j ∈ xs)) c → c ≤ xs.length → Inv X pins σ H { s with heap := h', toks := tk } → Q (.ref s.heap.objs.size) { s with heap := h', toks := tk }) :
    wpAny (model X.prog X.w) X.A (call (.type "set") [.ref l]) Q X.xe s := by
  rcases hq with hq | hq
  · obtain ⟨its, r, pl, hz⟩ := I.list hq
    exact call_set_lstS xs (I.ok.hd hc) pl.isList (by simpa using strsAre_of r) hb fun h' tk c hS hcl hk => h h' tk c hS hcl (I.kept fun b o e => hk b o e)
  · obtain ⟨its, r, pl, hz⟩ := I.tuple hq
    exact call_set_tupS xs (I.ok.hd hc) pl (by simpa using strsAre_of r) hb fun h' tk c hS hcl hk => h h' tk c hS hcl (I.kept fun b o e => hk b o e)
theorem SetS.count {w : World} {h : Heap} {b : Addr} {xs : List Str} {c : Nat} (R : SetS w h b (fun j => decide (j ∈ xs)) c) {ds : List Str} (n : ds.Nodup) (m : ∀ x, x ∈ ds ↔ x ∈ xs) : c = ds.length := by
  obtain ⟨o, es, ep, t, ho, hex, hd, g, nd, hm, hb, hf, hn, hr, hl⟩ := R
  rw [← hn, ← Array.length_toList, ← List.length_map (f := keyS)]
  exact nodup_len nd n fun x => by rw [← hm x, decide_eq_true_eq, m x]
theorem pe_lenSetS (hc : X.calm = true) (hg : Gl X "len") (hm : X.mg "len" = none) (hg2 : Gl X "set") (hm2 : X.mg "set" = none) (ha : PE X a ta)
    (na : starEach [a] X.env = (false, eval a X.env) :: starEach [] X.env) : PE X (.Call (.Name "len" p) [.Call (.Name "set" p2) [a] [] q] [] pos) (tSetArg X.K ta fun xs Q H => ∀ ds : List Str, ds.Nodup → (∀ x, x ∈ ds ↔ x ∈ xs) → Q (.int ds.length) H) := by
  refine ⟨fun pins s σ H Q I h => ?_⟩
  refine Call_ (ld_blt I hg hm boot_len ?_)
  refine PyProof.Rows.callWith_builtin1 (PyProof.Rows.args_cons ?_ rfl) rfl rfl
  refine Call_ (ld_blt I hg2 hm2 boot_set ?_)
  refine PyProof.Rows.callWith_type1 (PyProof.Rows.args_cons (thn (ha.run pins s σ H _ I h) fun v s1 ⟨x, H1, I1, r1, q1⟩ => PyProof.Rows.args_nil ?_) na) na rfl
  obtain ⟨l, xs, rfl, hq, hb, q1⟩ := q1
  cases r1
  refine set_ok hc I1 hq hb fun h' tk c hS hcl I2 => PyProof.Rows.args_nil ?_
  have hS' := hS
  obtain ⟨o, es, ep, t, ho, hex, hd, g, nd, hm', hb', hf, hn, hr, hl⟩ := hS
  have hsz : (es.size : Int) < 2 ^ 63 := by
    have : scanBound = 4096 := rfl
    omega
  refine call_len_set ho hex hd hf hsz ⟨.int (es.toList.map keyS).length, H1, I2.tok _, ⟨_, by rw [List.length_map, Array.length_toList]⟩, q1 _ nd fun x => by rw [← hm' x, decide_eq_true_eq]⟩
theorem pe_sortedSetS (hc : X.calm = true) (hg : Gl X "sorted") (hm : X.mg "sorted" = none) (hg2 : Gl X "set") (hm2 : X.mg "set" = none) (ha : PE X a ta)
    (na : starEach [a] X.env = (false, eval a X.env) :: starEach [] X.env) : PE X (.Call (.Name "sorted" p) [.Call (.Name "set" p2) [a] [] q] [] pos)
      (tSetArg X.K ta fun xs Q H => xs.length < 64 ∧ ∀ (ys : List Str) (p : Addr), sortedS ys = true → ys.Nodup → (∀ x, x ∈ ys ↔ x ∈ xs) → H p = none → Q (.ref p) (upd H p (.lst (ys.map V.str)))) := by
  refine ⟨fun pins s σ H Q I h => ?_⟩
  refine Call_ (ld_blt I hg hm (show bootBuiltins "sorted" = some (.builtin "sorted") from by decide +kernel) ?_)
  refine PyProof.Rows.callWith_builtin1 (PyProof.Rows.args_cons ?_ rfl) rfl rfl
  refine Call_ (ld_blt I hg2 hm2 boot_set ?_)
  refine PyProof.Rows.callWith_type1 (PyProof.Rows.args_cons (thn (ha.run pins s σ H _ I h) fun v s1 ⟨x, H1, I1, r1, q1⟩ => PyProof.Rows.args_nil ?_) na) na rfl
  obtain ⟨l, xs, rfl, hq, hb, h64, q1⟩ := q1
  cases r1
  refine set_ok hc I1 hq hb fun h' tk c hS hcl I2 => PyProof.Rows.args_nil ?_
  refine sorted_setS hS (I1.ok.hd hc) (by omega) fun s' p' out ct ys k1 eg eo hp hs b1 b2 b3 b4 => ?_
  have hys : ys.length ≤ sizeLine := by
    have z := nodup_le b3 (m := xs) fun x hx => by
      have := (b4 x).mp hx
      rwa [decide_eq_true_eq] at this
    rw [sizeLine_eq]
    omega
  have hn : H1 p' = none := I2.hok.fresh hp
  have I3 : Inv X pins σ (upd H1 p' (.lst (ys.map V.str))) { ({ s1 with heap := h', toks := tk } : Shared) with heap := s'.heap, gens := s'.gens, drawn := s'.drawn, toks := s'.toks } :=
    I2.call (ch := []) (Un.laid k1 hp hn) (I2.hok.laid k1 hp ⟨by rw [List.length_map]; exact hys, out.toList, ct, vals_of_strs b1, by rw [Array.toArray_toList]; exact hs⟩) (by rw [eg]; exact I2.bare) (fun _ z => nomatch z)
  have e : s' = { ({ s1 with heap := h', toks := tk } : Shared) with heap := s'.heap, gens := s'.gens, drawn := s'.drawn, toks := s'.toks } := by
    cases s'
    cases s1
    cases eo
    rfl
  rw [e]
  exact ⟨.ref p', _, I3, rfl, q1 ys p' b2 b3 (fun x => by rw [b4 x, decide_eq_true_eq]) (I2.hok.fresh hp)⟩
end
end Lt

set_option maxRecDepth 100000
set_option maxHeartbeats 2000000
namespace Lt
open PySem PySem.Spec PyProof.Rows L2
section
variable {X : Cx} {ca : CA}
/-- tuple(a list), and the object is known -/
def rPTup (K : PySem.W.Frag) : List V → Hp → VK → Prop := fun xs H Q => ∃ p ys, xs = [.ref p] ∧ SqL K H p ys ∧ ∀ l o, o.dict = none → H l = none → Q (.ref l) (upd H l (.frz o (.tup ys)))
theorem cr_ptup : CallR X (.type "tuple") (rPTup X.K) := by
  intro pins s σ H xs us Q I r h
  obtain ⟨p, ys, rfl, hq, q⟩ := h
  obtain ⟨u, rfl, rx⟩ := vals1 r
  cases rx
  obtain ⟨its, r', pl, hz⟩ := I.list hq
  have hlen := r'.length
  refine call_tuple_list pl.isList (fun h' kp => ?_) (by simp only [List.size_toArray] <;> omega)
  have I1 : Inv X pins σ H { s with heap := h' } := I.kept (t' := s.toks) kp
  have I2 : Inv X pins σ (upd H h'.objs.size (.frz { cls := .type "tuple", data := .seq its.toArray } (.tup ys))) { s with heap := h'.push { cls := .type "tuple", data := .seq its.toArray } } :=
    I1.laid (t' := s.toks) (fun b o e => Heap.get?_push_of_some _ e) (Nat.le_refl _) (show ObjOk X.prog X.w _ _ _ (.frz _ (.tup ys)) from ⟨Heap.get?_push_size _ rfl, hz, its, r', IsTup.new _ _⟩)
  exact ⟨.ref h'.objs.size, _, I2, rfl, q _ _ rfl (I1.hok.fresh (Nat.le_refl _))⟩
def ptupV (l : List PV) (h : PH) : M PV :=
  match l with
  | [.lst l] => some (.ptup l, h)
  | _ => none
theorem ol_ptup {K : PySem.W.Frag} : OpL K ca (rPTup K) ptupV := by
  intro φ h H xs z h' vs Q rh r0 e q
  cases xs with
  | nil => cases e
  | cons x l => cases l with
    | cons y l => cases x <;> cases e
    | nil =>
      obtain ⟨v, ev, r⟩ := RVs.one_of r0
      subst ev
      cases x with
      | lst l =>
        cases e
        obtain ⟨a, us, ev, f, hz, rs⟩ := r
        subst ev
        refine ⟨a, us, rfl, .inl (.inl f.1), fun p o ho hp => ?_⟩
        have x1 : Ext φ H φ (upd H p (.frz o (.tup us))) := Ext.new hp
        exact q _ φ _ x1 (rh.new hp) ⟨p, us, rfl, ⟨o, ho, upd_same, rh.off hp⟩, hz, RVs.ext x1.toExt0 _ _ rs⟩
      | _ => cases e
/-- it is a tuple -/
def wkV : PV → PV
  | .ptup l => .tup l
  | x => x
theorem RV.wk {K : PySem.W.Frag} {φ : Pl} {H : Hp} {x : PV} {v : V} (r : RV K ca φ H x v) : RV K ca φ H (wkV x) v := by
  cases x with
  | ptup l =>
    obtain ⟨a, vs, e, ⟨o, _, f⟩, z, rs⟩ := r
    exact ⟨a, vs, e, .inl ⟨.inr ⟨o, f.1⟩, f.2⟩, z, rs⟩
  | _ => exact r
theorem d_wk {e : Expr} {m : Sl → PH → M PV} (he : PE X e (tD X.K ca m)) : PE X e (tD X.K ca fun s h => bd (m s h) fun x h => some (wkV x, h)) := by
  refine wkE he fun σ H Q q => ?_
  obtain ⟨φ, s, h, z, h', rs, rh, e, q⟩ := q
  obtain ⟨x, h1, e1, e⟩ := bd_eq e
  cases e
  exact ⟨φ, s, h, x, _, rs, rh, e1, fun v φ1 H1 y1 rh1 r1 => q v φ1 H1 y1 rh1 r1.wk⟩
/-- dict(a tuple of pairs) -/
def rDictT (X : Cx) (ca : CA) : List V → Hp → VK → Prop := fun xs H Q => ∃ (φ : Pl) (l : List PV) (v : V) (ks : List DK) (ys : List PV), xs = [v] ∧ RV X.K ca φ H (.ptup l) v ∧ pairsV l = some (ks, ys) ∧
  ∀ (us : List V) (p : Addr), RVs X.K ca φ H ys us → ks.length = us.length → H p = none → Q (.ref p) (upd H p (.dK (mergeK [] ((ks.map dk).zip us))))
/-- the pairs, in the heap -/
theorem pairsD_at {φ : Pl} {H : Hp} {pins : List (Addr × Obj)} {σ : L2.St} {s : Shared} (I : Inv X pins σ H s) : ∀ {l : List PV} {vs : List V} {us : List Value} {ks : List DK} {ys : List PV}, RVs X.K ca φ H l vs → Vals vs us → pairsV l = some (ks, ys) →
    ∃ (Ts : List Addr) (ps : List (Value × Value)) (ws : List V) (prs : List (Key × Value)), Ts.length = ps.length ∧ us = Ts.map Value.ref ∧ RVs X.K ca φ H ys ws ∧ ks.length = ws.length ∧ KV ((ks.map dk).zip ws) prs ∧ prs.length = ps.length ∧
      (∀ (j : Nat) (k v : Value), ps[j]? = some (k, v) → ∃ T, Ts[j]? = some T ∧ s.heap.IsTuple T #[k, v]) ∧ (∀ (j : Nat) (k v : Value), ps[j]? = some (k, v) → ∃ kk, prs[j]? = some (kk, v) ∧ (mixKind X.prog X.w).is kk k = true)
  | [], vs, us, ks, ys, r, rv, e => by
    cases e
    have ev : vs = [] := r
    subst ev
    cases rv
    exact ⟨[], [], [], [], rfl, rfl, rfl, rfl, .nil, rfl, fun j k v e => by simp at e, fun j k v e => by simp at e⟩
  | x :: l, vs, us, ks, ys, r, rv, e => by
    obtain ⟨v, vs', ev, r1, r2⟩ := r
    subst ev
    cases rv with
    | cons ru rv =>
      have key : ∃ kx y, x = .tup [kx, y] := by
        cases x with
        | tup m => cases m with
          | nil => cases e
          | cons a m => cases m with
            | nil => cases e
            | cons b m => cases m with
              | nil => exact ⟨a, b, rfl⟩
              | cons _ _ => cases e
        | _ => cases e
      obtain ⟨kx, y, ex⟩ := key
      subst ex
      have e' : (match toDK kx, pairsV l with
        | some k, some (ks, vs) => some (k :: ks, y :: vs)
        | _, _ => none) = some (ks, ys) := e
      cases e1 : toDK kx with
      | none => rw [e1] at e'; cases e'
      | some k =>
        cases e2 : pairsV l with
        | none => rw [e1, e2] at e'; cases e'
        | some p2 =>
          obtain ⟨ks2, ys2⟩ := p2
          rw [e1, e2] at e'
          cases e'
          obtain ⟨Ts, ps, ws, prs, h1, h2, h3, h4, h5, h6, h7, h8⟩ := pairsD_at I r2 rv e2
          obtain ⟨a, ws1, ev, f, _, rs⟩ := r1
          subst ev
          cases (show _ = Value.ref a from ru)
          obtain ⟨kv, yv, ew, rk, ry⟩ := RVs.two_of rs
          subst ew
          obtain ⟨its, rvv, pt, _⟩ := I.tuple (SqT_of f)
          obtain ⟨ku, yu, eit, rku, ryu⟩ := vals2 rvv
          subst eit
          have ek := toDK_kV rk e1
          subst ek
          refine ⟨a :: Ts, (ku, yu) :: ps, yv :: ws, (dk k, yu) :: prs, by simp [h1], by rw [h2]; rfl, RVs.cons ry h3, by simp [h4], .cons ⟨rfl, ryu⟩ h5, by simp [h6], fun j k' v' ej => ?_, fun j k' v' ej => ?_⟩
          · cases j with
            | zero =>
              cases ej
              exact ⟨a, rfl, pt⟩
            | succ j => exact h7 j k' v' (by simpa using ej)
          · cases j with
            | zero =>
              cases ej
              exact ⟨dk k, rfl, kV_is rku⟩
            | succ j => exact h8 j k' v' (by simpa using ej)
theorem cr_dictT (hc : X.calm = true) : CallR X (.type "dict") (rDictT X ca) := by
  intro pins s σ H xs us Q I rx h
  obtain ⟨φ, l, v, ks, ys, rfl, r, e, q⟩ := h
  obtain ⟨u, rfl, ru⟩ := vals1 rx
  obtain ⟨a, vs, ev, ⟨o, ho, f⟩, _, rs⟩ := r
  subst ev
  cases (show u = Value.ref a from ru)
  obtain ⟨e0, hzz, its, rv, o', h1, h2, n, h3⟩ := (show ObjOk X.prog X.w H s.heap a (.frz o (.tup vs)) from I.hok a _ f.1)
  rw [e0] at h1
  cases h1
  obtain ⟨Ts, ps, ws, prs, g1, g2, g3, g4, g5, g6, g7, g8⟩ := pairsD_at I rs rv e
  have hsz : ps.length ≤ sizeLine := by
    have z1 := rv.length
    rw [g2, List.length_map, g1] at z1
    omega
  have hT : ∀ j (T : Addr), Ts[j]? = some T → Ts.getD j 0 = T := fun j T e => by rw [List.getD_eq_getElem?_getD, e]; rfl
  have P := PairArg.tuple (prog := X.prog) (w := X.w) a its.toArray (fun j => Ts.getD j 0) ps
  refine PySem.call_dict_pairs (knd := mixKind X.prog X.w) (kvs := prs) P (I.ok.hd hc) ⟨⟨o, n, e0, h2, ho, h3⟩, ⟨by rw [List.size_toArray, g2, List.length_map, g1], fun j k v ej => ?_⟩⟩ ⟨g6, fun j k v ej => g8 j k v ej⟩ hsz fun h' tk hd' hk => ?_
  · obtain ⟨T, t1, t2⟩ := g7 j k v ej
    show its.toArray[j]? = some (Value.ref (Ts.getD j 0)) ∧ PairAt s.heap (Ts.getD j 0) k v
    rw [hT j T t1]
    refine ⟨?_, .inl t2⟩
    rw [List.getElem?_toArray, g2, List.getElem?_map, t1]
    rfl
  · have hm : (s.heap.objs.size == sysModules) = false := beq_eq_false_iff_ne.mpr (Nat.ne_of_gt I.big)
    have hlen : (mergeK [] ((ks.map dk).zip ws)).length ≤ sizeLine := by
      refine Nat.le_trans (length_mergeK _ []) ?_
      rw [List.length_nil, Nat.zero_add, g5.length, g6]
      exact hsz
    have k : ∀ b o, s.heap.get? b = some o → h'.get? b = some o := fun b o e => hk b o (by simp) e
    exact ⟨.ref s.heap.objs.size, upd H s.heap.objs.size (.dK (mergeK [] ((ks.map dk).zip ws))), I.laid (t' := tk) k (Nat.le_refl _) (show ObjOk X.prog X.w _ _ _ (.dK _) from ⟨hlen, hm, merged [] prs, KV.merge g5 .nil, hd'⟩), rfl,
      q ws _ g3 g4 (I.hok.fresh (Nat.le_refl _))⟩
def dictTV (al : Bool) (l : List PV) (h : PH) : M PV :=
  match l with
  | [.ptup l] => match pairsV l with
    | some p => newD al (mergeV [] [] p.1 p.2).1 (mergeV [] [] p.1 p.2).2 h
    | none => none
  | _ => none
theorem pairsV_length : ∀ {l : List PV} {ks : List DK} {ys : List PV}, pairsV l = some (ks, ys) → ks.length = ys.length
  | [], ks, ys, e => by cases e; rfl
  | x :: l, ks, ys, e => by
    have key : ∃ kx y, x = .tup [kx, y] := by
      cases x with
      | tup m => cases m with
        | nil => cases e
        | cons a m => cases m with
          | nil => cases e
          | cons b m => cases m with
            | nil => exact ⟨a, b, rfl⟩
            | cons _ _ => cases e
      | _ => cases e
    obtain ⟨kx, y, ex⟩ := key
    subst ex
    have e' : (match toDK kx, pairsV l with
      | some k, some (ks, vs) => some (k :: ks, y :: vs)
      | _, _ => none) = some (ks, ys) := e
    cases e1 : toDK kx with
    | none => rw [e1] at e'; cases e'
    | some k =>
      cases e2 : pairsV l with
      | none => rw [e1, e2] at e'; cases e'
      | some p2 =>
        obtain ⟨ks2, ys2⟩ := p2
        rw [e1, e2] at e'
        cases e'
        simp [pairsV_length e2]
theorem new_dct {K : PySem.W.Frag} {φ : Pl} {h : PH} {H : Hp} {ks : List DK} {l : List PV} {vs : List V} {Q : VK} (rh : RH K ca φ h H) (r : RVs K ca φ H l vs) (z : ks.length = l.length) {al : Bool} {x : PV} {h' : PH} (e : newD al ks l h = some (x, h')) (q : Pst K ca φ H x h' Q) (p : Addr) (hp : H p = none) : Q (.ref p) (upd H p (.dK ((ks.map dk).zip vs))) := by
  cases al with
  | false =>
    cases e
    have x1 : Ext φ H φ (upd H p (.dK ((ks.map dk).zip vs))) := Ext.new hp
    exact q _ φ _ x1 (rh.new hp) ⟨p, vs, rfl, ⟨.inl upd_same, rh.off hp⟩, z, RVs.ext x1.toExt0 _ _ r⟩
  | true =>
    cases e
    have kp : ∀ b, b ≠ p → b ≠ p → upd H p (HO.dK ((ks.map dk).zip vs)) b = H b := fun b hb _ => upd_ne hb
    have x1 : Ext φ H (φ.and (p, p)) (upd H p (.dK ((ks.map dk).zip vs))) := Ext.make hp hp kp
    refine q _ _ _ x1 (rh.make (p := (p, p)) hp hp kp ⟨rfl, vs, upd_same, z, RVs.ext x1.toExt0 _ _ r⟩) ⟨(p, p), ?_, rfl⟩
    show (φ.l ++ [(p, p)])[h.length]? = some (p, p)
    rw [List.getElem?_append_right (by rw [rh.len]; exact Nat.le_refl _), rh.len, Nat.sub_self]
    rfl
theorem ol_dictT {al : Bool} : OpL X.K ca (rDictT X ca) (dictTV al) := by
  intro φ h H xs z h' vs Q rh r0 e q
  cases xs with
  | nil => cases e
  | cons x l => cases l with
    | cons y l => cases x <;> cases e
    | nil =>
      obtain ⟨v, ev, r⟩ := RVs.one_of r0
      subst ev
      cases x with
      | ptup l =>
        have e' : (match pairsV l with
          | some p => newD al (mergeV [] [] p.1 p.2).1 (mergeV [] [] p.1 p.2).2 h
          | none => none) = some (z, h') := e
        cases e1 : pairsV l with
        | none => rw [e1] at e'; cases e'
        | some p =>
          obtain ⟨ks, ys⟩ := p
          rw [e1] at e'
          refine ⟨φ, l, v, ks, ys, rfl, r, e1, fun us p rs hl hp => ?_⟩
          obtain ⟨us2, e2, z2, r2⟩ := merge_ok (K := X.K) (ca := ca) (φ := φ) (H := H) (ks := []) (l := []) (vs := []) rfl rfl (pairsV_length e1) rs
          have e2 : mergeK [] ((ks.map dk).zip us) = ((mergeV [] [] ks ys).1.map dk).zip us2 := e2
          rw [e2]
          exact new_dct rh r2 z2 e' q p hp
      | _ => cases e
end
end Lt

set_option maxRecDepth 100000
namespace Lt
open PySem PySem.Spec L2
abbrev XE := Sl → PH → M PV
abbrev XT := Sl → PH → M Bool
abbrev XA := Sl → PH → M (List PV)
abbrev XS := Sl → PH → Option Out
abbrev XC := List PV → PH → M PV
/-- what holds of a def's body and of the blocks in it -/
structure Cok (X : Cx) (k : Nat) : Prop where
  calm : X.calm = true
  nd : X.N.Nodup
  rm : Room k X.A
  gd : X.A.guards = some []
theorem Cok.blk {X : Cx} {k : Nat} (C : Cok X k) {s : Shared} {H : Hp} {scope : Scope} {env : Env} {fp : List Addr} : Cok (X.blk s H scope env fp) k := ⟨C.calm, C.nd, C.rm, C.gd⟩
theorem Cok.u {X : Cx} {k : Nat} (C : Cok X k) : X.A.units + 65 < cLine := by have := C.rm.un; omega
def xV (i : Nat) : XE := fun s h => match s[i]? with | some (some v) => some (v, h) | _ => none
def xC (d : PV) : XE := fun _ h => some (d, h)
def xOp (o : Op2) (a b : XE) : XE := fun s h => bd (a s h) fun x h => bd (b s h) fun y h => ob (opV o x y) fun v => some (v, h)
def xCmp (o : Cmp) (a b : XE) : XE := fun s h => bd (a s h) fun x h => bd (b s h) fun y h => ob (cmpV o x y h) fun v => some (.bl v, h)
def xChain (o p : Cmp) (a b c : XE) : XE := mChain (fun x y h => cmpV o x y h) (fun x y h => cmpV p x y h) a b c
def xNot (a : XE) : XE := fun s h => bd (a s h) fun x h => ob (truthV h x) fun t => some (.bl (!t), h)
def xNeg (a : XE) : XE := fun s h => bd (a s h) fun x h => match x with | .int i => some (.int (-i), h) | _ => none
def xIf (t : XT) (a b : XE) : XE := fun s h => bd (t s h) fun v h => ib v (a s h) (b s h)
def xBo (k : Bool) (a b : XE) : XE := fun s h => bd (a s h) fun x h => ob (truthV h x) fun t => ib (t == k) (b s h) (some (x, h))
def xIx (a i : XE) : XE := fun s h => bd (a s h) fun x h => bd (i s h) fun y h => ob (ixV h x y) fun v => some (v, h)
def xSl (n1 n2 : Bool) (a lo hi : XE) : XE := fun s h => bd (a s h) fun x h => bd (lo s h) fun y h => ob (partV n1 y) fun y => bd (hi s h) fun z h => ob (partV n2 z) fun z => ob (slV x y z) fun v => some (v, h)
def aN : XA := fun _ h => some ([], h)
def aC (a : XE) (l : XA) : XA := fun s h => bd (a s h) fun x h => bd (l s h) fun vs h => some (x :: vs, h)
def aS (a : XE) (l : XA) : XA := fun s h => bd (a s h) fun x h => ob (seqV x) fun xs => bd (l s h) fun vs h => some (xs ++ vs, h)
def xTup (l : XA) : XE := fun s h => bd (l s h) fun vs h => if vs.length ≤ sizeLine then some (.tup vs, h) else none
def xLst (al : Bool) (l : XA) : XE := fun s h => bd (l s h) fun vs h => if vs.length ≤ sizeLine then newL al vs h else none
def xCall (c : XC) (l : XA) : XE := fun s h => bd (l s h) fun vs h => c vs h
def xDs (al : Bool) (ms : List XE) : XE := fun s h => ob (starD s ms [] [] h) fun p => newD al p.1 p.2.1 p.2.2
def xWk (a : XE) : XE := fun s h => bd (a s h) fun x h => some (wkV x, h)
def xIsi (t : String) (a : XE) : XE := fun s h => bd (a s h) fun x h => ob (kdV h x) fun k => some (.bl (isiB k t), h)
def xIsO (c : Nat) (a : XE) : XE := fun s h => bd (a s h) fun x h => if clsV x h = some c then some (.bl true, h) else none
def xFld (c i : Nat) (a : XE) : XE := fun s h => bd (a s h) fun x h => if clsV x h = some c then ob (slotV i x h) fun v => some (v, h) else none
def xMeth (c : Nat) (f : XC) (a : XE) (l : XA) : XE := fun s h => bd (a s h) fun x h => if clsV x h = some c then bd (l s h) fun vs h => f (x :: vs) h else none
def xProp (c : Nat) (f : XC) (a : XE) : XE := fun s h => bd (a s h) fun x h => if clsV x h = some c then f [x] h else none
def xInO (c : Nat) (f : XC) (ne : Bool) (a b : XE) : XE := fun s h => bd (a s h) fun x h => bd (b s h) fun y h => if clsV y h = some c then bd (f [y, x] h) fun r h => match r with
      | .bl t => some (.bl (ne ^^ t), h)
      | _ => none else none
def xMe (m : Me) (o : XE) (l : XA) : XE := fun s h => bd (o s h) fun x h => ib (rcvV m x h) (bd (l s h) fun vs h => meV m x vs h) none
def tNt (a : XT) : XT := fun s h => bd (a s h) fun b h => some (!b, h)
def iSq (e : XE) : XA := fun s h => bd (e s h) fun x h => ob (itSeq1 x) fun l => some (l, h)
def iR1 (a : XE) : XA := fun s h => bd (a s h) fun x h => match x with
      | .int n => if -1000000 ≤ n ∧ n ≤ 1000000 then some (rngL 0 n.toNat, h) else none
      | _ => none
def iR2 (a b : XE) : XA := fun s h => bd (a s h) fun x h => bd (b s h) fun y h => match x, y with
      | .int i, .int j => if -1000000 ≤ i ∧ i ≤ 1000000 ∧ -1000000 ≤ j ∧ j ≤ 1000000 then some (rngL i (j - i).toNat, h) else none
      | _, _ => none
def sNx : XS := fun s h => some (.nx s h)
def sEx (e : XE) : XS := fun s h => bd (e s h) fun _ h => some (.nx s h)
def sSt (i : Nat) (e : XE) : XS := fun s h => bd (e s h) fun x h => some (.nx (s.set i (some x)) h)
def sTu (is : List Nat) (e : XE) : XS := fun s h => bd (e s h) fun x h => ob (asg (.tup is) x s) fun s => some (.nx s h)
def sP2 (i j : Nat) (l : XA) : XS := fun s h => bd (l s h) fun vs h => match vs with
      | [x, y] => some (.nx ((s.set i (some x)).set j (some y)) h)
      | _ => none
def sP3 (i j l : Nat) (a : XA) : XS := fun s h => bd (a s h) fun vs h => match vs with
      | [x, y, z] => some (.nx (((s.set i (some x)).set j (some y)).set l (some z)) h)
      | _ => none
def sIx (o i e : XE) : XS := fun s h => bd (e s h) fun x h => bd (o s h) fun y h => bd (i s h) fun z h => ob (setIxV y z x h) fun h => some (.nx s h)
def sFl (c i : Nat) (o e : XE) : XS := fun s h => bd (e s h) fun x h => bd (o s h) fun y h => ob (putFldV c i y x h) fun h => some (.nx s h)
def sIf (t : XT) (a b : XS) : XS := fun s h => bd (t s h) fun v h => ib v (a s h) (b s h)
def sFo (tg : Tg) (it : XA) (b : XS) : XS := fun s h => bd (it s h) fun xs h => forL tg b xs s h
def sWh (wf : Nat) (t : XT) (b : XS) : XS := fun s h => whL t b wf s h
def sRt (e : XE) : XS := fun s h => bd (e s h) fun v h => some (.rt v h)
def sRN : XS := fun _ h => some (.rt .non h)
def sBk : XS := fun s h => some (.bk s h)
def sCt : XS := fun s h => some (.ct s h)
def sNo : XS := fun _ _ => none
def sSq (a b : XS) : XS := fun s h => nxt (a s h) b
def locB (sc : Scope) (x : Str) : Bool := match sc.names.lookup x with
  | some .local => true
  | some .cell => true
  | _ => false
theorem loc_of {sc : Scope} {x : Str} (h : locB sc x = true) : Loc sc x := by
  unfold locB at h
  split at h
  · exact .inl (by assumption)
  · exact .inr (by assumption)
  · cases h
def visB (sc : Scope) (x : Str) : Bool := match sc.names.lookup x with
  | some .local => true
  | some .cell => true
  | some .free => true
  | _ => false
theorem vis_of {sc : Scope} {x : Str} (h : visB sc x = true) : Vis sc x := by
  unfold visB at h
  split at h
  · exact .inl (by assumption)
  · exact .inr (.inl (by assumption))
  · exact .inr (.inr (by assumption))
  · cases h
section
variable {X : Cx} {ca : CA} {k : Nat} {pos : Pos} {a b c e : Expr} {es rest : List Expr} {ma mb mc : XE} {ml : XA}
theorem r_var {i : Nat} {x : Str} (hN : X.N[i]? = some x := by rfl) (hv : Vis X.env.scope x := by refine vis_of ?_; kernel_rfl) (hd : (x == ("__debug__" : Str)) = false := by decide +kernel) (hcd : (x == ("__classdict__" : Str)) = false := by decide +kernel) :
    PE X (.Name x pos) (tD X.K ca (xV i)) := d_var hN hv hd hcd
theorem r_non {j : Nat} {pos} : PE X (.Constant .none j pos) (tD X.K ca (xC .non)) := d_const pe_non fun _ _ => rfl
theorem r_bl {v : Bool} {j} : PE X (.Constant (.bool v) j pos) (tD X.K ca (xC (.bl v))) := d_const pe_bl fun _ _ => rfl
theorem r_int {v : Int} {j} : PE X (.Constant (.int v) j pos) (tD X.K ca (xC (.int v))) := d_const pe_int fun _ _ => rfl
theorem r_str {v : Str} {t : Tx} {j} (e : v = sx t := by rfl) (z : t.length ≤ 4096 := by decide) (c : t.all (· < 0x110000) = true := by decide) : PE X (.Constant (.str v) j pos) (tD X.K ca (xC (.str t))) := by
  subst e
  exact d_const pe_str fun _ _ => ⟨rfl, Nat.le_trans z (by rw [sizeLine_eq]; decide), c⟩
theorem r_glob {x : Str} {v : V} {u : Value} {d : PV} (hg : Gl X x) (hm : X.mg x = some u) (hu : RelV v u) (r : ∀ φ H, RV X.K ca φ H d v) (hd : (x == ("__debug__" : Str)) = false := by decide +kernel) : PE X (.Name x pos) (tD X.K ca (xC d)) :=
  d_const (pe_glob hg hm hu hd) r
theorem r_op (o : Op2) (ha : PE X a (tD X.K ca ma)) (hb : PE X b (tD X.K ca mb)) : PE X (.BinOp a (astOp o) b pos) (tD X.K ca (xOp o ma mb)) := d_op (opr X o) (opd o) ha hb
theorem r_cmp (o : Cmp) (C : Cok X k) (ha : PE X a (tD X.K ca ma)) (hb : PE X b (tD X.K ca mb)) (hm : behindInMarks (astCmp o) b = false := by rfl) : PE X (.Compare a [astCmp o] [b] pos) (tD X.K ca (xCmp o ma mb)) := d_cmp (cmpr C.u o) (od_cmp o) ha hb hm
theorem r_chain (o p : Cmp) (C : Cok X k) (ha : PE X a (tD X.K ca ma)) (hb : PE X b (tD X.K ca mb)) (hc : PE X c (tD X.K ca mc)) (hm : lastMarks [astCmp o, astCmp p] [b, c] = false := by rfl) :
    PE X (.Compare a [astCmp o, astCmp p] [b, c] pos) (tD X.K ca (xChain o p ma mb mc)) := d_chain (cmpr C.u o) (cmpr C.u p) (od_cmp o) (od_cmp p) ha hb hc hm
theorem r_not (ha : PE X a (tD X.K ca ma)) : PE X (.UnaryOp .Not a pos) (tD X.K ca (xNot ma)) := d_not ha
theorem r_neg (ha : PE X a (tD X.K ca ma)) : PE X (.UnaryOp .USub a pos) (tD X.K ca (xNeg ma)) := d_neg ha
theorem r_if {mt : XT} (hc : PT X c (tDT X.K ca mt)) (ha : PE X a (tD X.K ca ma)) (hb : PE X b (tD X.K ca mb)) : PE X (.IfExp c a b pos) (tD X.K ca (xIf mt ma mb)) := d_if hc ha hb
theorem r_and1 (ha : PE X a (tD X.K ca ma)) : PE X (.BoolOp .And [a] pos) (tD X.K ca ma) := d_bo1 (k := true) ha
theorem r_or1 (ha : PE X a (tD X.K ca ma)) : PE X (.BoolOp .Or [a] pos) (tD X.K ca ma) := d_bo1 (k := false) ha
theorem r_and (ha : PE X a (tD X.K ca ma)) (hb : PE X (.BoolOp .And (b :: rest) pos) (tD X.K ca mb)) : PE X (.BoolOp .And (a :: b :: rest) pos) (tD X.K ca (xBo true ma mb)) := d_bo (k := true) ha hb
theorem r_or (ha : PE X a (tD X.K ca ma)) (hb : PE X (.BoolOp .Or (b :: rest) pos) (tD X.K ca mb)) : PE X (.BoolOp .Or (a :: b :: rest) pos) (tD X.K ca (xBo false ma mb)) := d_bo (k := false) ha hb
theorem r_ix (C : Cok X k) (ha : PE X a (tD X.K ca ma)) (hb : PE X b (tD X.K ca mb)) (hs : PlainIx b := by exact fun _ _ => rfl) : PE X (.Subscript a b pos) (tD X.K ca (xIx ma mb)) := d_ix (by have := C.u; omega) ha hb hs
theorem r_sl {lo hi : Option Expr} {n1 n2 : Bool} {p2 : Pos} {m1 m2 : XE} (ha : PE X a (tD X.K ca ma)) (h1 : L2.PO X lo (tDP X.K ca n1 m1)) (h2 : L2.PO X hi (tDP X.K ca n2 m2)) :
    PE X (.Subscript a (.Slice lo hi none p2) pos) (tD X.K ca (xSl n1 n2 ma m1 m2)) := d_sl ha h1 h2
theorem r_po (h : PE X e (tD X.K ca ma)) : L2.PO X (some e) (tDP X.K ca false ma) := d_po h
theorem r_po0 : L2.PO X none (tDP X.K ca true (xC .non)) := d_po0
theorem r_nil : PA X [] (tDA X.K ca aN) := d_nil
theorem r_cons (ha : PE X e (tD X.K ca ma)) (hr : PA X es (tDA X.K ca ml)) (hs : starEach (e :: es) X.env = (false, eval e X.env) :: starEach es X.env := by rfl) : PA X (e :: es) (tDA X.K ca (aC ma ml)) := d_cons ha hr hs
theorem r_star {p : Pos} (ha : PE X e (tD X.K ca ma)) (hr : PA X es (tDA X.K ca ml)) : PA X (.Starred e p :: es) (tDA X.K ca (aS ma ml)) := d_star ha hr
theorem r_tup {x1 : Nat} (ha : PA X es (tDA X.K ca ml)) : PE X (.Tuple es x1 pos) (tD X.K ca (xTup ml)) := d_tup ha
theorem r_lst {al : Bool} (ha : PA X es (tDA X.K ca ml)) : PE X (.List es pos) (tD X.K ca (xLst al ml)) := d_lst ha
theorem r_wk (ha : PE X a (tD X.K ca ma)) : PE X a (tD X.K ca (xWk ma)) := d_wk ha
theorem r_dctS {al : Bool} {ms : List XE} {n : Nat} (he : PEs X ca es ms) (hne : es ≠ [] := by simp) (ks : List.replicate es.length none = List.replicate n (none : Option Expr) := by rfl) : PE X (.Dict (List.replicate n none) es pos) (tD X.K ca (xDs al ms)) := by
  rw [← ks]
  exact d_dctS he hne
variable {x : Str} {p : Pos} {f : Addr} {cf : XC}
theorem r_call (C : Cok X (k + 1)) (F : FnG X.prog X.w X.K X.mg X.base k f (spOf X.K ca cf)) (hm : X.mg x = some (.ref f)) (hk : PySem.W.keepIn X.K (.ref f) = true) (ha : PA X (e :: es) (tDA X.K ca ml)) (hg : Gl X x := by unfold Gl; kernel_rfl)
    (hdb : (x == ("__debug__" : Str)) = false := by decide +kernel) (he : starEach (e :: es) X.env = (false, eval e X.env) :: starEach es X.env := by rfl) (hpl : (backTo pos (starEach es X.env)).any (·.1) = false := by rfl) :
    PE X (.Call (.Name x p) (e :: es) [] pos) (tD X.K ca (xCall cf ml)) := d_call F (C.rm.mono (Nat.le_succ k)) C.gd hg hm hk ha hdb he hpl
theorem r_call0 (C : Cok X (k + 1)) (F : FnG X.prog X.w X.K X.mg X.base k f (spOf X.K ca cf)) (hm : X.mg x = some (.ref f)) (hk : PySem.W.keepIn X.K (.ref f) = true) (hg : Gl X x := by unfold Gl; kernel_rfl) (hdb : (x == ("__debug__" : Str)) = false := by decide +kernel) :
    PE X (.Call (.Name x p) [] [] pos) (tD X.K ca (xCall cf aN)) := d_call0 F (C.rm.mono (Nat.le_succ k)) C.gd hg hm hk hdb
theorem r_callB {id : String} {r : List V → Hp → VK → Prop} {g : XC} (hc : CallR X (.builtin id) r) (ol : OpL X.K ca r g) (hv : bootBuiltins x = some (.builtin id)) (hn : x ≠ "__name__") (hdb : (x == ("__debug__" : Str)) = false) (hm : X.mg x = none) (ha : PA X (e :: es) (tDA X.K ca ml)) (hg : Gl X x)
    (he : starEach (e :: es) X.env = (false, eval e X.env) :: starEach es X.env) (hpl : (backTo pos (starEach es X.env)).any (·.1) = false) : PE X (.Call (.Name x p) (e :: es) [] pos) (tD X.K ca (xCall g ml)) := d_callB hc ol hg hm hv ha hn hdb he hpl
theorem r_callT {T : String} {r : List V → Hp → VK → Prop} {g : XC} (hc : CallR X (.type T) r) (ol : OpL X.K ca r g) (hv : bootBuiltins x = some (.type T)) (hn : x ≠ "__name__") (hdb : (x == ("__debug__" : Str)) = false) (hm : X.mg x = none) (ha : PA X (e :: es) (tDA X.K ca ml)) (hg : Gl X x)
    (he : starEach (e :: es) X.env = (false, eval e X.env) :: starEach es X.env) (hpl : (backTo pos (starEach es X.env)).any (·.1) = false) : PE X (.Call (.Name x p) (e :: es) [] pos) (tD X.K ca (xCall g ml)) := d_callTy hc ol hg hm hv ha hn hdb he hpl
end
theorem cr_len {X : Cx} : CallR X (.builtin "len") (rLen X.K) := CallR.or call_len fun pins s σ H xs us Q I r h => by
  obtain ⟨a, kvs, rfl, e, q⟩ := h
  obtain ⟨u, rfl, rx⟩ := vals1 r
  obtain rfl : u = Value.ref a := rx
  exact L2.d_len I e fun t s' I' => ⟨.int kvs.length, H, I', ⟨t, rfl⟩, q⟩
section
variable {X : Cx} {ca : CA} {k : Nat} {pos p : Pos} {e : Expr} {es : List Expr} {ml : XA} {al : Bool}
theorem rb_len (C : Cok X k) (hm : X.mg "len" = none) (ha : PA X (e :: es) (tDA X.K ca ml)) (hg : Gl X "len" := by unfold Gl; kernel_rfl) (he : starEach (e :: es) X.env = (false, eval e X.env) :: starEach es X.env := by rfl) (hpl : (backTo pos (starEach es X.env)).any (·.1) = false := by rfl) :
    PE X (.Call (.Name "len" p) (e :: es) [] pos) (tD X.K ca (xCall (biV .len) ml)) := r_callB (cr_len) ol_len (show bootBuiltins "len" = some (.builtin "len") from by decide +kernel) (by decide) (by decide) hm ha hg he hpl
theorem rb_abs (C : Cok X k) (hm : X.mg "abs" = none) (ha : PA X (e :: es) (tDA X.K ca ml)) (hg : Gl X "abs" := by unfold Gl; kernel_rfl) (he : starEach (e :: es) X.env = (false, eval e X.env) :: starEach es X.env := by rfl) (hpl : (backTo pos (starEach es X.env)).any (·.1) = false := by rfl) :
    PE X (.Call (.Name "abs" p) (e :: es) [] pos) (tD X.K ca (xCall (biV .abs) ml)) := r_callB (call_abs) ol_abs (show bootBuiltins "abs" = some (.builtin "abs") from by decide +kernel) (by decide) (by decide) hm ha hg he hpl
theorem rb_int (C : Cok X k) (hm : X.mg "int" = none) (ha : PA X (e :: es) (tDA X.K ca ml)) (hg : Gl X "int" := by unfold Gl; kernel_rfl) (he : starEach (e :: es) X.env = (false, eval e X.env) :: starEach es X.env := by rfl) (hpl : (backTo pos (starEach es X.env)).any (·.1) = false := by rfl) :
    PE X (.Call (.Name "int" p) (e :: es) [] pos) (tD X.K ca (xCall (biV .int) ml)) := r_callT (call_int1) ol_int (show bootBuiltins "int" = some (.type "int") from by decide +kernel) (by decide) (by decide) hm ha hg he hpl
theorem rb_bool (C : Cok X k) (hm : X.mg "bool" = none) (ha : PA X (e :: es) (tDA X.K ca ml)) (hg : Gl X "bool" := by unfold Gl; kernel_rfl) (he : starEach (e :: es) X.env = (false, eval e X.env) :: starEach es X.env := by rfl) (hpl : (backTo pos (starEach es X.env)).any (·.1) = false := by rfl) :
    PE X (.Call (.Name "bool" p) (e :: es) [] pos) (tD X.K ca (xCall (biV .bool) ml)) := r_callT (call_bool1) ol_bool (show bootBuiltins "bool" = some (.type "bool") from by decide +kernel) (by decide) (by decide) hm ha hg he hpl
theorem rb_all (C : Cok X k) (hm : X.mg "all" = none) (ha : PA X (e :: es) (tDA X.K ca ml)) (hg : Gl X "all" := by unfold Gl; kernel_rfl) (he : starEach (e :: es) X.env = (false, eval e X.env) :: starEach es X.env := by rfl) (hpl : (backTo pos (starEach es X.env)).any (·.1) = false := by rfl) :
    PE X (.Call (.Name "all" p) (e :: es) [] pos) (tD X.K ca (xCall (biV .all) ml)) := r_callB (cr_all C.calm) ol_all (show bootBuiltins "all" = some (.builtin "all") from by decide +kernel) (by decide) (by decide) hm ha hg he hpl
theorem rb_any (C : Cok X k) (hm : X.mg "any" = none) (ha : PA X (e :: es) (tDA X.K ca ml)) (hg : Gl X "any" := by unfold Gl; kernel_rfl) (he : starEach (e :: es) X.env = (false, eval e X.env) :: starEach es X.env := by rfl) (hpl : (backTo pos (starEach es X.env)).any (·.1) = false := by rfl) :
    PE X (.Call (.Name "any" p) (e :: es) [] pos) (tD X.K ca (xCall (biV .any) ml)) := r_callB (cr_any C.calm) ol_any (show bootBuiltins "any" = some (.builtin "any") from by decide +kernel) (by decide) (by decide) hm ha hg he hpl
theorem rb_sum (C : Cok X k) (hm : X.mg "sum" = none) (ha : PA X (e :: es) (tDA X.K ca ml)) (hg : Gl X "sum" := by unfold Gl; kernel_rfl) (he : starEach (e :: es) X.env = (false, eval e X.env) :: starEach es X.env := by rfl) (hpl : (backTo pos (starEach es X.env)).any (·.1) = false := by rfl) :
    PE X (.Call (.Name "sum" p) (e :: es) [] pos) (tD X.K ca (xCall (biV .sum) ml)) := r_callB (cr_sum C.calm) ol_sum (show bootBuiltins "sum" = some (.builtin "sum") from by decide +kernel) (by decide) (by decide) hm ha hg he hpl
theorem rb_max (C : Cok X k) (hm : X.mg "max" = none) (ha : PA X (e :: es) (tDA X.K ca ml)) (hg : Gl X "max" := by unfold Gl; kernel_rfl) (he : starEach (e :: es) X.env = (false, eval e X.env) :: starEach es X.env := by rfl) (hpl : (backTo pos (starEach es X.env)).any (·.1) = false := by rfl) :
    PE X (.Call (.Name "max" p) (e :: es) [] pos) (tD X.K ca (xCall (biV .max) ml)) := r_callB (CallR.or (cr_max C.calm) (call_max2 C.calm)) ol_max (show bootBuiltins "max" = some (.builtin "max") from by decide +kernel) (by decide) (by decide) hm ha hg he hpl
theorem rb_min (C : Cok X k) (hm : X.mg "min" = none) (ha : PA X (e :: es) (tDA X.K ca ml)) (hg : Gl X "min" := by unfold Gl; kernel_rfl) (he : starEach (e :: es) X.env = (false, eval e X.env) :: starEach es X.env := by rfl) (hpl : (backTo pos (starEach es X.env)).any (·.1) = false := by rfl) :
    PE X (.Call (.Name "min" p) (e :: es) [] pos) (tD X.K ca (xCall (biV .min) ml)) := r_callB (CallR.or (cr_min C.calm) (call_min2 C.calm)) ol_min (show bootBuiltins "min" = some (.builtin "min") from by decide +kernel) (by decide) (by decide) hm ha hg he hpl
theorem rb_repr (C : Cok X k) (hm : X.mg "repr" = none) (ha : PA X (e :: es) (tDA X.K ca ml)) (hg : Gl X "repr" := by unfold Gl; kernel_rfl) (he : starEach (e :: es) X.env = (false, eval e X.env) :: starEach es X.env := by rfl) (hpl : (backTo pos (starEach es X.env)).any (·.1) = false := by rfl) :
    PE X (.Call (.Name "repr" p) (e :: es) [] pos) (tD X.K ca (xCall (reprV) ml)) := r_callB (cr_repr C.gd (by have := C.u; omega)) ol_repr (show bootBuiltins "repr" = some (.builtin "repr") from by decide +kernel) (by decide) (by decide) hm ha hg he hpl
theorem rb_list (C : Cok X k) (hm : X.mg "list" = none) (ha : PA X (e :: es) (tDA X.K ca ml)) (hg : Gl X "list" := by unfold Gl; kernel_rfl) (he : starEach (e :: es) X.env = (false, eval e X.env) :: starEach es X.env := by rfl) (hpl : (backTo pos (starEach es X.env)).any (·.1) = false := by rfl) :
    PE X (.Call (.Name "list" p) (e :: es) [] pos) (tD X.K ca (xCall (listV al) ml)) := r_callT (cr_listX C.calm) ol_list (show bootBuiltins "list" = some (.type "list") from by decide +kernel) (by decide) (by decide) hm ha hg he hpl
theorem rb_tuple (C : Cok X k) (hm : X.mg "tuple" = none) (ha : PA X (e :: es) (tDA X.K ca ml)) (hg : Gl X "tuple" := by unfold Gl; kernel_rfl) (he : starEach (e :: es) X.env = (false, eval e X.env) :: starEach es X.env := by rfl) (hpl : (backTo pos (starEach es X.env)).any (·.1) = false := by rfl) :
    PE X (.Call (.Name "tuple" p) (e :: es) [] pos) (tD X.K ca (xCall (biV .tuple) ml)) := r_callT (call_tuple_of) ol_tuple (show bootBuiltins "tuple" = some (.type "tuple") from by decide +kernel) (by decide) (by decide) hm ha hg he hpl
theorem rb_ptup (C : Cok X k) (hm : X.mg "tuple" = none) (ha : PA X (e :: es) (tDA X.K ca ml)) (hg : Gl X "tuple" := by unfold Gl; kernel_rfl) (he : starEach (e :: es) X.env = (false, eval e X.env) :: starEach es X.env := by rfl) (hpl : (backTo pos (starEach es X.env)).any (·.1) = false := by rfl) :
    PE X (.Call (.Name "tuple" p) (e :: es) [] pos) (tD X.K ca (xCall (ptupV) ml)) := r_callT (cr_ptup) ol_ptup (show bootBuiltins "tuple" = some (.type "tuple") from by decide +kernel) (by decide) (by decide) hm ha hg he hpl
theorem rb_dictT (C : Cok X k) (hm : X.mg "dict" = none) (ha : PA X (e :: es) (tDA X.K ca ml)) (hg : Gl X "dict" := by unfold Gl; kernel_rfl) (he : starEach (e :: es) X.env = (false, eval e X.env) :: starEach es X.env := by rfl) (hpl : (backTo pos (starEach es X.env)).any (·.1) = false := by rfl) :
    PE X (.Call (.Name "dict" p) (e :: es) [] pos) (tD X.K ca (xCall (dictTV al) ml)) := r_callT (cr_dictT C.calm) ol_dictT (show bootBuiltins "dict" = some (.type "dict") from by decide +kernel) (by decide) (by decide) hm ha hg he hpl
end
section
variable {X : Cx} {ca : CA} {k c i : Nat} {pos p p2 apos : Pos} {a b e o value : Expr} {es : List Expr} {ma mb mo : XE} {ml : XA} {cf : XC} {x tn f m : Str} {g q : Addr}
theorem r_isi (t : String) (hT : t ∈ ["int", "bool", "str", "tuple", "list", "dict"]) (hbt : bootBuiltins tn = some (.type t)) (hn : tn ≠ "__name__") (hd : (tn == ("__debug__" : Str)) = false) (hm : X.mg "isinstance" = none) (hmt : X.mg tn = none)
    (he : PE X e (tD X.K ca ma)) (hg : Gl X "isinstance" := by unfold Gl; kernel_rfl) (hgt : Gl X tn := by unfold Gl; kernel_rfl) (hs : starEach [e, .Name tn p2] X.env = (false, eval e X.env) :: starEach [.Name tn p2] X.env := by rfl) :
    PE X (.Call (.Name "isinstance" p) [e, .Name tn p2] [] pos) (tD X.K ca (xIsi t ma)) := d_isi hT hg hm hgt hmt hbt hn hd he hs
theorem ri_int (hm : X.mg "isinstance" = none) (hmt : X.mg "int" = none) (he : PE X e (tD X.K ca ma)) (hg : Gl X "isinstance" := by unfold Gl; kernel_rfl) (hgt : Gl X "int" := by unfold Gl; kernel_rfl) (hs : starEach [e, .Name "int" p2] X.env = (false, eval e X.env) :: starEach [.Name "int" p2] X.env := by rfl) :
    PE X (.Call (.Name "isinstance" p) [e, .Name "int" p2] [] pos) (tD X.K ca (xIsi "int" ma)) := r_isi "int" (by decide) (show bootBuiltins "int" = some (.type "int") from by decide +kernel) (by decide) (by decide) hm hmt he hg hgt hs
theorem ri_bool (hm : X.mg "isinstance" = none) (hmt : X.mg "bool" = none) (he : PE X e (tD X.K ca ma)) (hg : Gl X "isinstance" := by unfold Gl; kernel_rfl) (hgt : Gl X "bool" := by unfold Gl; kernel_rfl) (hs : starEach [e, .Name "bool" p2] X.env = (false, eval e X.env) :: starEach [.Name "bool" p2] X.env := by rfl) :
    PE X (.Call (.Name "isinstance" p) [e, .Name "bool" p2] [] pos) (tD X.K ca (xIsi "bool" ma)) := r_isi "bool" (by decide) (show bootBuiltins "bool" = some (.type "bool") from by decide +kernel) (by decide) (by decide) hm hmt he hg hgt hs
theorem ri_str (hm : X.mg "isinstance" = none) (hmt : X.mg "str" = none) (he : PE X e (tD X.K ca ma)) (hg : Gl X "isinstance" := by unfold Gl; kernel_rfl) (hgt : Gl X "str" := by unfold Gl; kernel_rfl) (hs : starEach [e, .Name "str" p2] X.env = (false, eval e X.env) :: starEach [.Name "str" p2] X.env := by rfl) :
    PE X (.Call (.Name "isinstance" p) [e, .Name "str" p2] [] pos) (tD X.K ca (xIsi "str" ma)) := r_isi "str" (by decide) (show bootBuiltins "str" = some (.type "str") from by decide +kernel) (by decide) (by decide) hm hmt he hg hgt hs
theorem ri_tuple (hm : X.mg "isinstance" = none) (hmt : X.mg "tuple" = none) (he : PE X e (tD X.K ca ma)) (hg : Gl X "isinstance" := by unfold Gl; kernel_rfl) (hgt : Gl X "tuple" := by unfold Gl; kernel_rfl) (hs : starEach [e, .Name "tuple" p2] X.env = (false, eval e X.env) :: starEach [.Name "tuple" p2] X.env := by rfl) :
    PE X (.Call (.Name "isinstance" p) [e, .Name "tuple" p2] [] pos) (tD X.K ca (xIsi "tuple" ma)) := r_isi "tuple" (by decide) (show bootBuiltins "tuple" = some (.type "tuple") from by decide +kernel) (by decide) (by decide) hm hmt he hg hgt hs
theorem ri_list (hm : X.mg "isinstance" = none) (hmt : X.mg "list" = none) (he : PE X e (tD X.K ca ma)) (hg : Gl X "isinstance" := by unfold Gl; kernel_rfl) (hgt : Gl X "list" := by unfold Gl; kernel_rfl) (hs : starEach [e, .Name "list" p2] X.env = (false, eval e X.env) :: starEach [.Name "list" p2] X.env := by rfl) :
    PE X (.Call (.Name "isinstance" p) [e, .Name "list" p2] [] pos) (tD X.K ca (xIsi "list" ma)) := r_isi "list" (by decide) (show bootBuiltins "list" = some (.type "list") from by decide +kernel) (by decide) (by decide) hm hmt he hg hgt hs
theorem ri_dict (hm : X.mg "isinstance" = none) (hmt : X.mg "dict" = none) (he : PE X e (tD X.K ca ma)) (hg : Gl X "isinstance" := by unfold Gl; kernel_rfl) (hgt : Gl X "dict" := by unfold Gl; kernel_rfl) (hs : starEach [e, .Name "dict" p2] X.env = (false, eval e X.env) :: starEach [.Name "dict" p2] X.env := by rfl) :
    PE X (.Call (.Name "isinstance" p) [e, .Name "dict" p2] [] pos) (tD X.K ca (xIsi "dict" ma)) := r_isi "dict" (by decide) (show bootBuiltins "dict" = some (.type "dict") from by decide +kernel) (by decide) (by decide) hm hmt he hg hgt hs
theorem r_isO (hm : X.mg "isinstance" = none) (hmt : X.mg tn = some (.ref (ca c))) (hc : SlX.SCls X.K (ca c)) (hi : SlX.SIsi X.K (ca c)) (he : PE X e (tD X.K ca ma)) (hg : Gl X "isinstance" := by unfold Gl; kernel_rfl) (hgt : Gl X tn := by unfold Gl; kernel_rfl) (hd : (tn == ("__debug__" : Str)) = false := by decide +kernel)
    (hs : starEach [e, .Name tn p2] X.env = (false, eval e X.env) :: starEach [.Name tn p2] X.env := by rfl) : PE X (.Call (.Name "isinstance" p) [e, .Name tn p2] [] pos) (tD X.K ca (xIsO c ma)) := d_isiO hg hm hgt hmt hd hc hi he hs
theorem r_fld {p : Addr} (hc : SlX.SCls X.K (ca c)) (hs : SlX.Slot1 X.K (ca c) f p i) (he : PE X e (tD X.K ca mo)) (hb : attributeBase e f X.env (eval e X.env) = eval e X.env := by rfl) : PE X (.Attribute e f pos) (tD X.K ca (xFld c i mo)) := d_fld he hc hs hb
theorem r_meth {pl : Sem Bool} (C : Cok X (k + 1)) (hc : SlX.SCls X.K (ca c)) (hm : Meth X.K (ca c) m g) (F : FnG X.prog X.w X.K X.mg X.base k g (spOf X.K ca cf)) (ho : PE X o (tD X.K ca mo)) (ha : PA X (e :: es) (tDA X.K ca ml))
    (ht : eval (.Call (.Attribute o m apos) (e :: es) [] pos) X.env = (do
      let ov ← eval o X.env
      standAt apos.atName
      let (f, first) ← holding [ov] (getMethod ov m pl)
      callWith pos f first (backTo pos (starEach (e :: es) X.env)) (backToKw pos (keywordEach [] X.env))))
    (hst : starEach (e :: es) X.env = (false, eval e X.env) :: starEach es X.env := by rfl) (hpl : (backTo pos (starEach es X.env)).any (·.1) = false := by rfl) :
    PE X (.Call (.Attribute o m apos) (e :: es) [] pos) (tD X.K ca (xMeth c cf mo ml)) := d_meth ho hc hm F (C.rm.mono (Nat.le_succ k)) C.gd ha hst hpl ht
theorem r_prop (C : Cok X (k + 1)) (hc : SlX.SCls X.K (ca c)) (at_ : PySem.W.findIn X.K (.ref (ca c)) f = some (some (.ref q))) (get : PySem.W.specialIn X.K (.ref q) "__get__" = some (some (.builtin "property.__get__")))
    (tk : PySem.W.takesIn X.K (.ref q) = some true) (rc : ∃ rest, PySem.W.recIn X.K q "property" = some (.ref g :: rest)) (F : FnG X.prog X.w X.K X.mg X.base k g (spOf X.K ca cf)) (he : PE X e (tD X.K ca mo)) (hb : attributeBase e f X.env (eval e X.env) = eval e X.env := by rfl) :
    PE X (.Attribute e f pos) (tD X.K ca (xProp c cf mo)) := d_prop he hc at_ get tk rc F C.rm C.gd hb
theorem r_in (C : Cok X (k + 1)) (hs : PySem.W.findIn X.K (.ref (ca c)) "__contains__" = some (some (.ref g))) (hf : PySem.W.isFn X.K (.ref g) = true) (F : FnG X.prog X.w X.K X.mg X.base k g (spOf X.K ca cf)) (ha : PE X a (tD X.K ca ma)) (hb : PE X b (tD X.K ca mb)) (hm : behindInMarks .In b = false := by rfl) :
    PE X (.Compare a [.In] [b] pos) (tD X.K ca (xInO c cf false ma mb)) := d_inOwn (op_inOwn hs hf F (C.rm.mono (Nat.le_succ k)) C.gd) ha hb hm
theorem r_notIn (C : Cok X (k + 1)) (hs : PySem.W.findIn X.K (.ref (ca c)) "__contains__" = some (some (.ref g))) (hf : PySem.W.isFn X.K (.ref g) = true) (F : FnG X.prog X.w X.K X.mg X.base k g (spOf X.K ca cf)) (ha : PE X a (tD X.K ca ma)) (hb : PE X b (tD X.K ca mb)) (hm : behindInMarks .NotIn b = false := by rfl) :
    PE X (.Compare a [.NotIn] [b] pos) (tD X.K ca (xInO c cf true ma mb)) := d_inOwn (op_notInOwn hs hf F (C.rm.mono (Nat.le_succ k)) C.gd) ha hb hm
theorem r_make {vl : Bool} (C : Cok X (k + 1)) (M : Mk X.K (ca c) g) (F : FnG X.prog X.w X.K X.mg X.base k g (spOf X.K ca cf)) (hm : X.mg x = some (.ref (ca c))) (ha : PA X (e :: es) (tDA X.K ca ml)) (hg : Gl X x := by unfold Gl; kernel_rfl) (hdb : (x == ("__debug__" : Str)) = false := by decide +kernel)
    (he : starEach (e :: es) X.env = (false, eval e X.env) :: starEach es X.env := by rfl) (hpl : (backTo pos (starEach es X.env)).any (·.1) = false := by rfl) :
    PE X (.Call (.Name x p) (e :: es) [] pos) (tD X.K ca (xCall (mkV vl c cf) ml)) := d_make M F C.rm C.gd hg hm ha hdb he hpl
theorem me_ok {name : Str} (h1 : attributeBase o name X.env (eval o X.env) = eval o X.env) (h2 : ((backTo pos (starEach (e :: es) X.env)).all (fun x => !x.1) && (backToKw pos (keywordEach [] X.env)).all (fun x => x.1.isSome)
      && decide ((e :: es).length + ([] : List Keyword).length + (if ([] : List Keyword).isEmpty then 0 else 1) < 30)) = true) (h3 : (apos.endLine == pos.line) = true) (h4 : starEach (e :: es) X.env = (false, eval e X.env) :: starEach es X.env) (h5 : (backTo pos (starEach es X.env)).any (·.1) = false) : MeOk X o name apos e es pos := ⟨h1, h2, h3, h4, h5⟩
theorem r_append (ho : PE X o (tD X.K ca mo)) (ha : PA X (e :: es) (tDA X.K ca ml)) (k : MeOk X o "append" apos e es pos := by exact me_ok rfl rfl rfl rfl rfl) : PE X (.Call (.Attribute o "append" apos) (e :: es) [] pos) (tD X.K ca (xMe .append mo ml)) := d_append ho ha k
theorem r_popAt (ho : PE X o (tD X.K ca mo)) (ha : PA X (e :: es) (tDA X.K ca ml)) (k : MeOk X o "pop" apos e es pos := by exact me_ok rfl rfl rfl rfl rfl) : PE X (.Call (.Attribute o "pop" apos) (e :: es) [] pos) (tD X.K ca (xMe .popAt mo ml)) := d_popAt ho ha k
theorem r_strip (ho : PE X o (tD X.K ca mo)) (ha : PA X (e :: es) (tDA X.K ca ml)) (k : MeOk X o "strip" apos e es pos := by exact me_ok rfl rfl rfl rfl rfl) : PE X (.Call (.Attribute o "strip" apos) (e :: es) [] pos) (tD X.K ca (xMe .strip mo ml)) := d_strip ho ha k
end
section
variable {X : Cx} {ca : CA} {k : Nat} {pos : Pos} {a b : Expr} {rest : List Expr} {ma : XE} {mt mu : XT}
def tTr (m : XE) : XT := mTr m
def tBo (k : Bool) (a b : XT) : XT := fun s h => bd (a s h) fun x h => ib (x == k) (b s h) (some (x, h))
def tB1 (k : Bool) (a : XT) : XT := fun s h => bd (a s h) fun b h => ib (b == k) (some (k, h)) (some (b, h))
theorem t_tst (ha : PE X a (tD X.K ca ma)) (he : ∀ whole, isTrue a X.env whole = (do let v ← whole; standAt a.pos; holding [v] (truthy v)) := by exact fun _ => rfl) : PT X a (tDT X.K ca (tTr ma)) := d_test ha he
theorem t_cmp {op : CmpOp} {b : Expr} (ha : PE X (.Compare a [op] [b] pos) (tD X.K ca ma)) (h : PE X (.Compare a [op] [b] pos) (tD X.K ca ma) → PT X (.Compare a [op] [b] pos) (tDT X.K ca (tTr ma))) : PT X (.Compare a [op] [b] pos) (tDT X.K ca (tTr ma)) := h ha
theorem t_not (ha : PT X a (tDT X.K ca mt)) : PT X (.UnaryOp .Not a pos) (tDT X.K ca (tNt mt)) := d_tnot ha
theorem w_and1 (ha : PT X a (tDT X.K ca mt)) : PW X (.BoolOp .And [a] pos) (tDT X.K ca (tB1 true mt)) := d_tbo1 (k := true) ha
theorem w_or1 (ha : PT X a (tDT X.K ca mt)) : PW X (.BoolOp .Or [a] pos) (tDT X.K ca (tB1 false mt)) := d_tbo1 (k := false) ha
theorem w_and (ha : PT X a (tDT X.K ca mt)) (hb : PW X (.BoolOp .And (b :: rest) pos) (tDT X.K ca mu)) : PW X (.BoolOp .And (a :: b :: rest) pos) (tDT X.K ca (tBo true mt mu)) := d_tbo (k := true) ha hb
theorem w_or (ha : PT X a (tDT X.K ca mt)) (hb : PW X (.BoolOp .Or (b :: rest) pos) (tDT X.K ca mu)) : PW X (.BoolOp .Or (a :: b :: rest) pos) (tDT X.K ca (tBo false mt mu)) := d_tbo (k := false) ha hb
theorem t_w (h : PW X a (tDT X.K ca mt)) : PT X a (tDT X.K ca mt) := h.pt
end
section
variable {X : Cx} {ca : CA} {k : Nat} {pos : Pos} {a b c : Expr} {ma mb mc : XE}
theorem t_rcmp (o : Cmp) (C : Cok X k) (ha : PE X a (tD X.K ca ma)) (hb : PE X b (tD X.K ca mb)) (hm : behindInMarks (astCmp o) b = false := by rfl) : PT X (.Compare a [astCmp o] [b] pos) (tDT X.K ca (tTr (xCmp o ma mb))) := d_tcmp (cmpr C.u o) (od_cmp o) ha hb hm
theorem t_chain' (o p : Cmp) (C : Cok X k) (ha : PE X a (tD X.K ca ma)) (hb : PE X b (tD X.K ca mb)) (hc : PE X c (tD X.K ca mc)) (hm : lastMarks [astCmp o, astCmp p] [b, c] = false := by rfl) :
    PT X (.Compare a [astCmp o, astCmp p] [b, c] pos) (tDT X.K ca (tTr (xChain o p ma mb mc))) := d_tchain (cmpr C.u o) (cmpr C.u p) (od_cmp o) (od_cmp p) ha hb hc hm
end
end Lt

set_option maxRecDepth 100000
namespace Lt
open PySem PySem.Spec L2
section
variable {X : Cx} {ca : CA} {k i : Nat} {pos : Pos} {e : Expr} {es : List Expr} {x : Str}
theorem g_name (C : Cok X k) (hi : X.N[i]? = some x := by rfl) (hx : Loc X.env.scope x := by refine loc_of ?_; kernel_rfl) (hf : X.fn x = true ∨ X.env.scope.names.lookup x = some .local := by first | exact .inl rfl | exact .inr (by kernel_rfl)) : PG X (.Name x pos) (gOf X.K (.name i)) := pg_name C.nd hi hx hf
theorem gs_nil : PGs X [] (gNames []) := pgs_nil
theorem gs_cons {is : List Nat} (h1 : PG X e (gOf X.K (.name i))) (h2 : PGs X es (gNames is)) (hs : (assignEach (e :: es) X.env).map (·.2) = assign e X.env :: (assignEach es X.env).map (·.2) := by rfl) : PGs X (e :: es) (gNames (i :: is)) := pgs_cons h1 h2 hs
theorem g_tup {kk : Nat} {is : List Nat} (C : Cok X k) (h : PGs X es (gNames is)) (hn : (assignEach es X.env).length = is.length := by rfl) (hst : (assignEach es X.env).findIdx? (·.1) = none := by rfl) : PG X (.Tuple es kk pos) (gOf X.K (.tup is)) := pg_tup C.calm h hn hst
end
section
variable {X : Cx} {ca : CA} {k : Nat} {pos p : Pos} {tg a b e : Expr} {ma mb : XE}
theorem i_sq (he : PE X e (tD X.K ca ma)) : PI X tg e (tDI X.K ca (iSq ma)) := i_seq he
theorem i_r1 (hm : X.mg "range" = none) (ha : PE X a (tD X.K ca ma)) (hg : Gl X "range" := by unfold Gl; kernel_rfl) (hs : starEach [a] X.env = [(false, eval a X.env)] := by rfl) : PI X tg (.Call (.Name "range" p) [a] [] pos) (tDI X.K ca (iR1 ma)) := i_rng1 hg hm ha hs
theorem i_r2 (hm : X.mg "range" = none) (ha : PE X a (tD X.K ca ma)) (hb : PE X b (tD X.K ca mb)) (hg : Gl X "range" := by unfold Gl; kernel_rfl) (hs : starEach [a, b] X.env = [(false, eval a X.env), (false, eval b X.env)] := by rfl) (hs2 : starEach [b] X.env = [(false, eval b X.env)] := by rfl) :
    PI X tg (.Call (.Name "range" p) [a, b] [] pos) (tDI X.K ca (iR2 ma mb)) := i_rng2 hg hm ha hb hs hs2
/-- a dict that a slot of a name's instance holds -/
def pSlot (C : Addr) (i j : Nat) : St → Hp → V → Prop := fun σ H v => ∃ a dx vs, σ[i]? = some (some (.ref a)) ∧ SlX.Slt H a C dx vs ∧ vs[j]? = some (some v)
def pVar (i : Nat) : St → Hp → V → Prop := fun σ _ v => σ[i]? = some (some v)
theorem ptd_var {K : PySem.W.Frag} {i : Nat} : Ptd K ca (pVar i) (xV i) := by
  refine ⟨fun φ s h H σ x h' rs rh e => ?_, fun σ H d kvs o v q _ => q⟩
  unfold xV at e
  cases e1 : s[i]? with
  | none => simp only [e1] at e; cases e
  | some y => cases y with
    | none => simp only [e1] at e; cases e
    | some y =>
      simp only [e1] at e
      cases e
      obtain ⟨v, e2, r⟩ := rs.2 i _ e1
      exact ⟨rfl, v, e2, r⟩
theorem pe_pvar {i : Nat} {x : Str} (hN : X.N[i]? = some x := by rfl) (hv : Vis X.env.scope x := by refine vis_of ?_; kernel_rfl) (hd : (x == ("__debug__" : Str)) = false := by decide +kernel) (hcd : (x == ("__classdict__" : Str)) = false := by decide +kernel) :
    PE X (.Name x pos) (tP (pVar i)) := pe_var hN hv hd hcd
theorem slt_lock {H : Hp} {a C dx d : Addr} {vs : List (Option V)} {kvs : List (Key × V)} {o : Obj} (s : SlX.Slt H a C dx vs) (e : H d = some (.dK kvs)) : SlX.Slt (upd H d (.frz o (.dK kvs))) a C dx vs := by
  rcases s with ⟨s1, s2⟩ | ⟨s1, s2⟩
  · have h1 : a ≠ d := fun z => by
      subst z
      rw [e] at s1
      cases s1
    exact .inl ⟨by rw [upd_ne h1]; exact s1, s2⟩
  · have h1 : a ≠ d := fun z => by
      subst z
      rw [e] at s1
      unfold SlX.SlO at s1
      cases s1
    have h2 : dx ≠ d := fun z => by
      subst z
      rw [e] at s2
      cases s2
    exact .inr ⟨by rw [upd_ne h1]; exact s1, by rw [upd_ne h2]; exact s2⟩
theorem ptd_slot {K : PySem.W.Frag} {c i j : Nat} : Ptd K ca (pSlot (ca c) i j) (xFld c j (xV i)) := by
  refine ⟨fun φ s h H σ x h' rs rh e => ?_, fun σ H d kvs o v q e => ?_⟩
  · obtain ⟨y, h1, e1, e0⟩ := bd_eq e
    obtain ⟨eh, v, pv, r⟩ := ptd_var.data φ s h H σ y h1 rs rh e1
    have e3 : (if clsV y h1 = some c then ob (slotV j y h1) fun v => some (v, h1) else none) = some (x, h') := e0
    clear e e0
    subst eh
    split at e3
    · rename_i hcl
      obtain ⟨z, e2, e4⟩ := ob_eq e3
      cases e4
      obtain ⟨a, dx, vs, u, ev, sl, eu, ru⟩ := inst_slot rh r hcl e2
      subst ev
      exact ⟨rfl, u, ⟨a, dx, vs, pv, sl, eu⟩, ru⟩
    · cases e3
  · obtain ⟨a, dx, vs, e1, sl, e2⟩ := q
    exact ⟨a, dx, vs, e1, slt_lock sl e, e2⟩
theorem pe_pslot {c i j : Nat} {q : Addr} {f : Str} {x : Str} (hc : SlX.SCls X.K (ca c)) (hs : SlX.Slot1 X.K (ca c) f q j) (hN : X.N[i]? = some x := by rfl) (hv : Vis X.env.scope x := by refine vis_of ?_; kernel_rfl) (hd : (x == ("__debug__" : Str)) = false := by decide +kernel) (hcd : (x == ("__classdict__" : Str)) = false := by decide +kernel)
    (hb : attributeBase (.Name x p) f X.env (eval (.Name x p) X.env) = eval (.Name x p) X.env := by rfl) : PE X (.Attribute (.Name x p) f pos) (tP (pSlot (ca c) i j)) := by
  refine wkE (SlX.pe_sl (pe_var hN hv hd hcd) hb) fun σ H Q q => ?_
  obtain ⟨v, ⟨a, dx, vs, e1, sl, e2⟩, q⟩ := q
  exact ⟨_, e1, a, ca c, dx, _, vs, j, v, rfl, sl, hc, hs, e2, q⟩
theorem i_keys {P : St → Hp → V → Prop} (he : PE X e (tP P)) : PI X tg e (iDict .keys P) := pi_keys he
theorem i_items {P : St → Hp → V → Prop} {elts : List Expr} {kk : Nat} {tpos apos : Pos} (he : PE X e (tP P)) (hbase : attributeBase e "items" X.env (eval e X.env) = eval e X.env := by rfl) (hline : (apos.endLine == pos.line) = true := by rfl) :
    PI X (.Tuple elts kk tpos) (.Call (.Attribute e "items" apos) [] [] pos) (iDict .items P) := pi_items he hbase hline
end
section
variable {X : Cx} {ca : CA} {k i : Nat} {elt vx tg iter : Expr} {ifs : List Expr} {scope : Scope} {own : List (Str × Nat)} {pos spos py : Pos} {tgd : Tg} {mi : XA} {mt : XT} {me mk mv m0 : XE} {w : Dw} {P : St → Hp → V → Prop} {al : Bool} {y : Str}
def tYe : XT := fun _ h => some (true, h)
theorem ts_nil : PTs X [] (tDT X.K ca tYe) := wkTs pts_nil (tYes_of fun _ _ => rfl)
theorem ts_one {c : Expr} (h : PT X c (tDT X.K ca mt)) : PTs X [c] (tDT X.K ca mt) := pts_one h
abbrev BlkC (k : Nat) (X : Cx) (scope : Scope) (P : Cx → Prop) : Prop := ∀ (s : Shared) (H : Hp) (C : Addr) (cl : List (Str × Addr)) (fp : List Addr), Cok (X.blk s H scope (compEnvC scope cl C X.env) fp) k → P (X.blk s H scope (compEnvC scope cl C X.env) fp)
theorem BlkC.un (C : Cok X k) {P : Cx → Prop} (h : BlkC k X scope P) : Blk X scope P := fun s H A cl fp => h s H A cl fp C.blk
theorem r_lc (own : List (Str × Nat)) (C : Cok X k) (hi : PI X tg iter (tDI X.K ca mi)) (hg : BlkC k X scope fun Y => PG Y tg (gOf X.K tgd)) (ht : BlkC k X scope fun Y => PTs Y ifs (tDT X.K ca mt)) (he : BlkC k X scope fun Y => PE Y elt (tD X.K ca me))
    (ok : blkC X.N X.env.scope scope own = true := by kernel_rfl) (hv : own.map (·.2) = tgd.ids := by rfl) (hs : ∀ x, foldedSetIterable iter X.env x = pure x := by exact fun _ => rfl) :
    PE X (.ListComp elt [⟨tg, iter, ifs, 0⟩] scope pos) (tD X.K ca (lcV al tgd mi mt me)) := d_lc C.calm C.nd hi (blkOk_by ok) (fun i => by rw [hv]) (hg.un C) (ht.un C) (he.un C) hs
theorem r_lcK (own : List (Str × Nat)) (C : Cok X k) (pt : Ptd X.K ca P m0) (hi : PI X tg iter (iDict w P)) (hg : BlkC k X scope fun Y => PG Y tg (gOf X.K tgd)) (ht : BlkC k X scope fun Y => PTs Y ifs (tDT X.K ca mt)) (he : BlkC k X scope fun Y => PE Y elt (tD X.K ca me))
    (ok : blkC X.N X.env.scope scope own = true := by kernel_rfl) (hv : own.map (·.2) = tgd.ids := by rfl) (hs : ∀ x, foldedSetIterable iter X.env x = pure x := by exact fun _ => rfl) :
    PE X (.ListComp elt [⟨tg, iter, ifs, 0⟩] scope pos) (tD X.K ca (lcV al tgd (dwV w m0) mt me)) := d_lcK C.calm C.nd pt hi (blkOk_by ok) (fun i => by rw [hv]) (hg.un C) (ht.un C) (he.un C) hs
theorem r_dc (own : List (Str × Nat)) (C : Cok X k) (hi : PI X tg iter (tDI X.K ca mi)) (hg : BlkC k X scope fun Y => PG Y tg (gOf X.K tgd)) (hk : BlkC k X scope fun Y => PE Y elt (tD X.K ca mk)) (he : BlkC k X scope fun Y => PE Y vx (tD X.K ca mv))
    (ok : blkC X.N X.env.scope scope own = true := by kernel_rfl) (hv : own.map (·.2) = tgd.ids := by rfl) (hs : ∀ x, foldedSetIterable iter X.env x = pure x := by exact fun _ => rfl) :
    PE X (.DictComp elt vx [⟨tg, iter, [], 0⟩] scope pos) (tD X.K ca (dcV al tgd mi mk mv)) := d_dc C.calm C.nd hi (blkOk_by ok) (fun i => by rw [hv]) (hg.un C) (hk.un C) (he.un C) hs
theorem r_dcK (own : List (Str × Nat)) (C : Cok X k) (pt : Ptd X.K ca P m0) (hi : PI X tg iter (iDict w P)) (hg : BlkC k X scope fun Y => PG Y tg (gOf X.K tgd)) (hk : BlkC k X scope fun Y => PE Y elt (tD X.K ca mk)) (he : BlkC k X scope fun Y => PE Y vx (tD X.K ca mv))
    (ok : blkC X.N X.env.scope scope own = true := by kernel_rfl) (hv : own.map (·.2) = tgd.ids := by rfl) (hs : ∀ x, foldedSetIterable iter X.env x = pure x := by exact fun _ => rfl) :
    PE X (.DictComp elt vx [⟨tg, iter, [], 0⟩] scope pos) (tD X.K ca (dcV al tgd (dwV w m0) mk mv)) := d_dcK C.calm C.nd pt hi (blkOk_by ok) (fun i => by rw [hv]) (hg.un C) (hk.un C) (he.un C) hs
theorem set_of {K : PySem.W.Frag} {m : XE} (D : Ends) (σ : St) (H : Hp) (q : tDS K ca (sSt i m) D σ H) : tAsg (tD K ca m) (gName i) D σ H := by
  obtain ⟨φ, s, h, o, rs, rh, e, q⟩ := q
  obtain ⟨x, h1, e1, e⟩ := bd_eq e
  cases e
  exact ⟨φ, s, h, x, h1, rs, rh, e1, fun v φ' H' y rh' r => q _ φ' H' y rh' ((rs.ext y.toExt0).set r)⟩
theorem s_setLc (own : List (Str × Nat)) (C : Cok X k) (hi : PI X tg iter (tDI X.K ca mi)) (hg : BlkC k X scope fun Y => PG Y tg (gOf X.K tgd)) (ht : BlkC k X scope fun Y => PTs Y ifs (tDT X.K ca mt)) (he : BlkC k X scope fun Y => PE Y elt (tD X.K ca me)) (hy : X.N[i]? = some y := by rfl) (hyl : X.env.scope.names.lookup y = some .local := by kernel_rfl)
    (hsw : swapsWith (.ListComp elt [⟨tg, iter, ifs, 0⟩] scope pos) (some (.Name y py)) spos.line X.env = pure true := by kernel_rfl) (ok : blkC X.N X.env.scope scope own = true := by kernel_rfl) (hv : own.map (·.2) = tgd.ids := by rfl) (hs : ∀ x, foldedSetIterable iter X.env x = pure x := by exact fun _ => rfl) :
    PS X (.Assign [.Name y py] (.ListComp elt [⟨tg, iter, ifs, 0⟩] scope pos) spos) (tDS X.K ca (sSt i (lcV al tgd mi mt me))) := wkS (d_setLc C.calm C.nd hy hyl hsw hi (blkOk_by ok) (fun i => by rw [hv]) (hg.un C) (ht.un C) (he.un C) hs) set_of
theorem s_setLcK (own : List (Str × Nat)) (C : Cok X k) (pt : Ptd X.K ca P m0) (hi : PI X tg iter (iDict w P)) (hg : BlkC k X scope fun Y => PG Y tg (gOf X.K tgd)) (ht : BlkC k X scope fun Y => PTs Y ifs (tDT X.K ca mt)) (he : BlkC k X scope fun Y => PE Y elt (tD X.K ca me)) (hy : X.N[i]? = some y := by rfl) (hyl : X.env.scope.names.lookup y = some .local := by kernel_rfl)
    (hsw : swapsWith (.ListComp elt [⟨tg, iter, ifs, 0⟩] scope pos) (some (.Name y py)) spos.line X.env = pure true := by kernel_rfl) (ok : blkC X.N X.env.scope scope own = true := by kernel_rfl) (hv : own.map (·.2) = tgd.ids := by rfl) (hs : ∀ x, foldedSetIterable iter X.env x = pure x := by exact fun _ => rfl) :
    PS X (.Assign [.Name y py] (.ListComp elt [⟨tg, iter, ifs, 0⟩] scope pos) spos) (tDS X.K ca (sSt i (lcV al tgd (dwV w m0) mt me))) := wkS (d_setLcK C.calm C.nd hy hyl hsw pt hi (blkOk_by ok) (fun i => by rw [hv]) (hg.un C) (ht.un C) (he.un C) hs) set_of
end
section
variable {X : Cx} {ca : CA} {k i : Nat} {st : Stmt} {rest : List Stmt} {pos p : Pos} {a e o tg iter : Expr} {es : List Expr} {me mo mi_ : XE} {ml mi : XA} {mt : XT} {ms mr : XS} {tgd : Tg} {y : Str}
theorem ss_nil : PSs X [] (tDS X.K ca sNx) := wkSs pss_nil fun D σ H q => by
  obtain ⟨φ, s, h, o, rs, rh, e, q⟩ := q
  cases e
  exact q σ φ H Ext.refl rh rs
theorem ss_cons (h1 : PS X st (tDS X.K ca ms)) (h2 : PSs X rest (tDS X.K ca mr)) : PSs X (st :: rest) (tDS X.K ca (sSq ms mr)) := wkSs (pss_cons h1 h2) fun D σ H q => by
  obtain ⟨φ, s, h, o, rs, rh, e, q⟩ := q
  have e' : nxt (ms s h) mr = some o := e
  cases e1 : ms s h with
  | none => rw [e1] at e'; cases e'
  | some o1 =>
    rw [e1] at e'
    refine ⟨φ, s, h, o1, rs, rh, e1, ?_⟩
    cases o1 with
    | nx s1 h1 => exact fun σ' φ' H' y rh' rs' => ⟨φ', s1, h1, o, rs', rh', e', q.ext y⟩
    | rt v h1 =>
      cases e'
      exact q
    | bk s1 h1 =>
      cases e'
      exact q
    | ct s1 h1 =>
      cases e'
      exact q
theorem ss_one (h1 : PS X st (tDS X.K ca ms)) : PSs X [st] (tDS X.K ca ms) := pss_one h1
theorem s_pass : PS X (.Pass pos) (tDS X.K ca sNx) := wkS ps_pass fun D σ H q => by
  obtain ⟨φ, s, h, o, rs, rh, e, q⟩ := q
  cases e
  exact q σ φ H Ext.refl rh rs
theorem s_bk : PS X (.Break pos) (tDS X.K ca sBk) := wkS ps_break fun D σ H q => by
  obtain ⟨φ, s, h, o, rs, rh, e, q⟩ := q
  cases e
  exact q σ φ H Ext.refl rh rs
theorem s_ct : PS X (.Continue pos) (tDS X.K ca sCt) := wkS ps_continue fun D σ H q => by
  obtain ⟨φ, s, h, o, rs, rh, e, q⟩ := q
  cases e
  exact q σ φ H Ext.refl rh rs
theorem s_no : PS X st (tDS X.K ca sNo) := wkS ps_never fun D σ H q => by
  obtain ⟨φ, s, h, o, rs, rh, e, q⟩ := q
  cases e
theorem s_ex (he : PE X e (tD X.K ca me)) (hs : swapsWith e none pos.line X.env = pure false := by rfl) : PS X (.Expr e pos) (tDS X.K ca (sEx me)) := wkS (ps_expr he hs) fun D σ H q => by
  obtain ⟨φ, s, h, o, rs, rh, e, q⟩ := q
  obtain ⟨x, h1, e1, e⟩ := bd_eq e
  cases e
  exact ⟨φ, s, h, x, h1, rs, rh, e1, fun v φ' H' y rh' r => q σ φ' H' y rh' (rs.ext y.toExt0)⟩
theorem s_rt (he : PE X e (tD X.K ca me)) : PS X (.Return (some e) pos) (tDS X.K ca (sRt me)) := wkS (ps_ret he) fun D σ H q => by
  obtain ⟨φ, s, h, o, rs, rh, e, q⟩ := q
  obtain ⟨x, h1, e1, e⟩ := bd_eq e
  cases e
  exact ⟨φ, s, h, x, h1, rs, rh, e1, q⟩
theorem s_rN : PS X (.Return none pos) (tDS X.K ca sRN) := wkS ps_retN fun D σ H q => by
  obtain ⟨φ, s, h, o, rs, rh, e, q⟩ := q
  cases e
  exact q _ φ H Ext.refl rh rfl
theorem s_if {b1 b2 : List Stmt} (hc : PT X e (tDT X.K ca mt)) (ha : PSs X b1 (tDS X.K ca ms)) (hb : PSs X b2 (tDS X.K ca mr)) : PS X (.If e b1 b2 pos) (tDS X.K ca (sIf mt ms mr)) := wkS (ps_if hc ha hb) fun D σ H q => by
  obtain ⟨φ, s, h, o, rs, rh, e, q⟩ := q
  obtain ⟨x, h1, e1, e⟩ := bd_eq e
  refine ⟨φ, s, h, x, h1, rs, rh, e1, fun φ' H' y rh' => ?_⟩
  cases x with
  | true => exact ⟨φ', s, h1, o, rs.ext y.toExt0, rh', e, q.ext y⟩
  | false => exact ⟨φ', s, h1, o, rs.ext y.toExt0, rh', e, q.ext y⟩
theorem s_st (C : Cok X k) (he : PE X e (tD X.K ca me)) (hi : X.N[i]? = some y := by rfl) (hx : Loc X.env.scope y := by refine loc_of ?_; kernel_rfl) (hs : swapsWith e (some (.Name y p)) pos.line X.env = pure false := by rfl) (hf : X.fn y = true ∨ X.env.scope.names.lookup y = some .local := by exact .inl rfl) :
    PS X (.Assign [.Name y p] e pos) (tDS X.K ca (sSt i me)) := wkS (ps_set C.nd hi hx he hs hf) set_of
theorem s_tu {is : List Nat} {kk : Nat} (C : Cok X k) (he : PE X e (tD X.K ca me)) (hg : PG X (.Tuple es kk p) (gOf X.K (.tup is))) (hs : swapsWithSole [.Tuple es kk p] e pos.line X.env = pure false := by rfl) (hw : swappedStores [.Tuple es kk p] e X.env = pure none := by rfl)
    (h1 : (assignEach [.Tuple es kk p] X.env).map (·.2) = [assign (.Tuple es kk p) X.env] := by rfl) : PS X (.Assign [.Tuple es kk p] e pos) (tDS X.K ca (sTu is me)) := wkS (ps_asg he hg hs hw h1) fun D σ H q => by
  obtain ⟨φ, s, h, o, rs, rh, e, q⟩ := q
  obtain ⟨x, h1, e1, e⟩ := bd_eq e
  obtain ⟨s2, e2, e⟩ := ob_eq e
  cases e
  exact ⟨φ, s, h, x, h1, rs, rh, e1, fun v φ' H' y rh' r => asg_ok (rs.ext y.toExt0).b r e2 fun us rs' => q _ φ' H' y rh' rs'⟩
theorem s_fo {body : List Stmt} (C : Cok X k) (hp : PassesOwn (model X.prog X.w) X.A X.env X.xe) (hi : PI X tg iter (tDI X.K ca mi)) (hg : PG X tg (gOf X.K tgd)) (hb : PSs X body (tDS X.K ca ms)) (hs : ∀ x, foldedSetIterable iter X.env x = pure x := by exact fun _ => rfl) :
    PS X (.For tg iter body [] pos) (tDS X.K ca (sFo tgd mi ms)) := d_for hp C.calm hi hg hb hs
theorem s_wh {body : List Stmt} (wf : Nat) (hp : PassesOwn (model X.prog X.w) X.A X.env X.xe) (hc : PT X e (tDT X.K ca mt)) (hb : PSs X body (tDS X.K ca ms)) : PS X (.While e body [] pos) (tDS X.K ca (sWh wf mt ms)) := d_while hp hc hb
theorem s_fl {c : Nat} {f : Str} {q : Addr} (hc : SlX.SCls X.K (ca c)) (hs : SlX.Slot1 X.K (ca c) f q i) (ha : PE X o (tD X.K ca mo)) (hv : PE X e (tD X.K ca me)) (hsw : swapsWith e (some (.Attribute o f p)) pos.line X.env = pure false := by rfl) :
    PS X (.Assign [.Attribute o f p] e pos) (tDS X.K ca (sFl c i mo me)) := d_setFld ha hv hc hs hsw
/-- a, b = x, y -/
theorem s_p2 {i j : Nat} {x y : Str} {a b : Expr} {px py pt : Pos} {kt k2 pt2} (C : Cok X k) (ha : PA X [a, b] (tDA X.K ca ml)) (hi : X.N[i]? = some x := by rfl) (hj : X.N[j]? = some y := by rfl) (hij : i ≠ j := by decide) (hx : X.env.scope.names.lookup x = some .local := by kernel_rfl) (hy : X.env.scope.names.lookup y = some .local := by kernel_rfl)
    (hw : swappedStores [.Tuple [.Name x px, .Name y py] kt pt] (.Tuple [a, b] k2 pt2) X.env = pure (some [x, y]) := by kernel_rfl) (hs : swapsWithSole [.Tuple [.Name x px, .Name y py] kt pt] (.Tuple [a, b] k2 pt2) pos.line X.env = pure false := by rfl) :
    PS X (.Assign [.Tuple [.Name x px, .Name y py] kt pt] (.Tuple [a, b] k2 pt2) pos) (tDS X.K ca (sP2 i j ml)) := wkS (ps_par C.calm C.nd hi hj hij hx hy ha hw hs) fun D σ H q => by
  obtain ⟨φ, s, h, o, rs, rh, e, q⟩ := q
  obtain ⟨xs, h1, e1, e⟩ := bd_eq e
  refine ⟨φ, s, h, xs, h1, rs, rh, e1, fun vs φ' H' y rh' r => ?_⟩
  cases xs with
  | nil => cases e
  | cons u l => cases l with
    | nil => cases e
    | cons w l => cases l with
      | cons _ _ => cases e
      | nil =>
        cases e
        obtain ⟨v1, v2, ev, r1, r2⟩ := RVs.two_of r
        exact ⟨v1, v2, ev, q _ φ' H' y rh' (((rs.ext y.toExt0).set r1).set r2)⟩
/-- o[i] = v of what stands at a place -/
theorem od_setIx {K : PySem.W.Frag} {φ : Pl} {h h' : PH} {H : Hp} {x i z : PV} {v iv u : V} {Q : Hp → Prop} (rh : RH K ca φ h H) (r : RV K ca φ H x v) (ri : RV K ca φ H i iv) (ru : RV K ca φ H z u) (e : setIxV x i z h = some h')
    (q : ∀ H', Ext φ H φ H' → RH K ca φ h' H' → Q H') : rSetL v iv u H Q ∨ rSetD v iv u H Q := by
  cases x with
  | ref n =>
    obtain ⟨pl, ep, ev⟩ := r
    obtain ⟨ob', eo, ro⟩ := rh.pl ep
    have e' := e
    unfold setIxV at e'
    clear e
    simp only [] at e'
    rw [eo] at e'
    cases ob' with
    | lst l =>
      obtain ⟨⟨e2, hz⟩, us, f, rs⟩ := ro
      cases i with
      | int k =>
        simp only [] at e'
        cases ej : ixN' l.length k with
        | none => rw [ej] at e'; cases e'
        | some j =>
          rw [ej] at e'
          cases e'
          obtain ⟨x1, rh1⟩ := write_lst (l := l.set j z) (us := us.set j u) rh ep e2 (by rw [List.length_set]; exact hz) (rs.set j ru)
          exact .inl ⟨pl.1, us, k, j, ev, ri, f, by rw [← rs.length]; exact ej, q _ x1 rh1⟩
      | _ => cases e'
    | dct ks l =>
      obtain ⟨e2, us, f, hz, rs⟩ := ro
      have e' : ((toDK i).bind fun k => if ks.length < sizeLine then some (h.set n (.dct (putV ks l k z).1 (putV ks l k z).2)) else none) = some h' := e'
      cases ek : toDK i with
      | none => rw [ek] at e'; cases e'
      | some k =>
        rw [ek] at e'
        have e' : (if ks.length < sizeLine then some (h.set n (.dct (putV ks l k z).1 (putV ks l k z).2)) else none) = some h' := e'
        split at e'
        · rename_i hl
          cases e'
          obtain ⟨ws, e3, e4, rw', _⟩ := put_ok hz rs ru (k := k)
          have kp : ∀ b, b ≠ pl.1 → b ≠ pl.2 → upd H pl.1 (HO.dK (putK ((ks.map dk).zip us) (dk k) u)) b = H b := fun b h1 _ => upd_ne h1
          have xc := rh.changes ep kp
          refine .inr ⟨pl.1, _, ev, ?_, q _ xc (rh.change ep kp ⟨e2, ws, by rw [upd_same, e3], e4, RVs.ext xc.toExt0 _ _ rw'⟩)⟩
          rw [toDK_kV ri ek]
          refine DPut.k f ?_
          rw [List.length_zip, List.length_map]
          omega
        · cases e'
    | ins c l => cases e'
  | _ => cases e
theorem PSet.or {t t' : TSet} (h : PSet X t) (h' : PSet X t') : PSet X (fun o i v H Q => t o i v H Q ∨ t' o i v H Q) := fun pins s σ H o i v ov iv u Q I ro ri rv q => q.elim (h pins s σ H o i v ov iv u Q I ro ri rv) (h' pins s σ H o i v ov iv u Q I ro ri rv)
theorem s_ix {i : Expr} {mx : XE} (C : Cok X k) (ho : PE X o (tD X.K ca mo)) (hx : PE X i (tD X.K ca mx)) (he : PE X e (tD X.K ca me)) (hs : swapsWithSole [.Subscript o i p] e pos.line X.env = pure false := by rfl) (hw : swappedStores [.Subscript o i p] e X.env = pure none := by rfl)
    (h1 : (assignEach [.Subscript o i p] X.env).map (·.2) = [assign (.Subscript o i p) X.env] := by rfl)
    (ha : ∀ v, assign (.Subscript o i p) X.env v = (do
      let ov ← holding [v] (eval o X.env)
      let iv ← holding [v, ov] (eval i X.env)
      standAt p
      holding [v, ov, iv] (setItem ov iv v)
      release [v, ov, iv] []) := by exact fun _ => rfl) : PS X (.Assign [.Subscript o i p] e pos) (tDS X.K ca (sIx mo mx me)) :=
  wkS (ps_asg he (pg_sub ho hx (PSet.or set_list (set_dict (by have := C.u; omega))) ha) hs hw h1) fun D σ H q => by
    obtain ⟨φ, s, h, out, rs, rh, e0, q⟩ := q
    obtain ⟨x, h1, e1, e0⟩ := bd_eq e0
    obtain ⟨y, h2, e2, e0⟩ := bd_eq e0
    obtain ⟨z, h3, e3, e0⟩ := bd_eq e0
    obtain ⟨h4, e4, e5⟩ := ob_eq e0
    cases e5
    refine ⟨φ, s, h, x, h1, rs, rh, e1, fun v φ1 H1 y1 rh1 r1 => ⟨φ1, s, h1, y, h2, rs.ext y1.toExt0, rh1, e2, fun w φ2 H2 y2 rh2 r2 => ⟨φ2, s, h2, z, h3, (rs.ext y1.toExt0).ext y2.toExt0, rh2, e3, fun u φ3 H3 y3 rh3 r3 => ?_⟩⟩⟩
    exact od_setIx rh3 (RV.ext y3.toExt0 _ _ r2) r3 (RV.ext y3.toExt0 _ _ (RV.ext y2.toExt0 _ _ r1)) e4 fun H4 y4 rh4 => q σ φ3 H4 (((y1.trans y2).trans y3).trans y4) rh4 ((((rs.ext y1.toExt0).ext y2.toExt0).ext y3.toExt0).ext y4.toExt0)
end
end Lt

set_option maxRecDepth 100000
namespace Lt
open PySem PySem.Spec L2
/-- the texts of what is read -/
def txs : PV → Option (List Tx)
  | .tup l => strsV l
  | .lst l => strsV l
  | _ => none
def xLenSet (a : XE) : XE := fun s h => bd (a s h) fun x h => ob (txs x) fun ts => if ts.length + 1 < 4096 then some (.int (nubS ts).length, h) else none
def xSortSet (a : XE) : XE := fun s h => bd (a s h) fun x h => ob (txs x) fun ts => if ts.length < 64 then some (.lst ((sortS (nubS ts)).map .str), h) else none
section
variable {K : PySem.W.Frag} {ca : CA} {φ : Pl} {h : PH} {H : Hp}
theorem txs_of {x : PV} {v : V} {ts : List Tx} (r : RV K ca φ H x v) (e : txs x = some ts) : ∃ l, v = .ref l ∧ (SqL K H l ((ts.map sx).map V.str) ∨ SqT K H l ((ts.map sx).map V.str)) := by
  cases x with
  | tup l =>
    obtain ⟨a, vs, ev, f, _, rs⟩ := r
    rw [← strsV_vs e rs]
    exact ⟨a, ev, .inr (SqT_of f)⟩
  | lst l =>
    obtain ⟨a, vs, ev, f, _, rs⟩ := r
    rw [← strsV_vs e rs]
    exact ⟨a, ev, .inl (.inl (.inl f.1))⟩
  | _ => cases e
/-- items whose texts are all known are texts that may be told anew -/
theorem txs_fit {x : PV} {v : V} {ts : List Tx} (r : RV K ca φ H x v) (e : txs x = some ts) : ∀ t ∈ ts, t.length ≤ sizeLine ∧ t.all (· < 0x110000) = true := by
  have go : ∀ (l : List PV) (vs : List V) (ts : List Tx), RVs K ca φ H l vs → strsV l = some ts → ∀ t ∈ ts, t.length ≤ sizeLine ∧ t.all (· < 0x110000) = true := by
    intro l
    induction l with
    | nil =>
      intro vs ts rs e t ht
      cases e
      cases ht
    | cons x l ih =>
      intro vs ts rs e t ht
      obtain ⟨v, us, ev, r1, r2⟩ := rs
      cases x with
      | str b =>
        have e' : (strsV l).map (b :: ·) = some ts := e
        cases e1 : strsV l with
        | none => rw [e1] at e'; cases e'
        | some tr =>
          rw [e1] at e'
          cases e'
          rcases List.mem_cons.mp ht with ht | ht
          · rw [ht]
            exact r1.2
          · exact ih us tr r2 e1 t ht
      | _ => cases e
  cases x with
  | tup l =>
    obtain ⟨a, vs, ev, f, _, rs⟩ := r
    exact go l vs ts rs e
  | lst l =>
    obtain ⟨a, vs, ev, f, _, rs⟩ := r
    exact go l vs ts rs e
  | _ => cases e
theorem strs_rvs : ∀ {ts : List Tx}, (∀ t ∈ ts, t.length ≤ sizeLine ∧ t.all (· < 0x110000) = true) → RVs K ca φ H (ts.map .str) ((ts.map sx).map V.str)
  | [], _ => rfl
  | t :: ts, h => ⟨_, _, rfl, ⟨rfl, h t (List.mem_cons_self ..)⟩, strs_rvs fun u hu => h u (List.mem_cons_of_mem _ hu)⟩
end
section
variable {X : Cx} {ca : CA} {k : Nat} {a : Expr} {p p2 q pos : Pos} {ma : XE}
theorem r_lenSet (C : Cok X k) (hm : X.mg "len" = none) (hm2 : X.mg "set" = none) (ha : PE X a (tD X.K ca ma)) (hg : Gl X "len" := by unfold Gl; kernel_rfl) (hg2 : Gl X "set" := by unfold Gl; kernel_rfl) (na : starEach [a] X.env = (false, eval a X.env) :: starEach [] X.env := by rfl) :
    PE X (.Call (.Name "len" p) [.Call (.Name "set" p2) [a] [] q] [] pos) (tD X.K ca (xLenSet ma)) := by
  refine wkE (pe_lenSetS C.calm hg hm hg2 hm2 ha na) fun σ H Q w => ?_
  obtain ⟨φ, s, h, z, h', rs, rh, e, w⟩ := w
  obtain ⟨x, h1, e1, e⟩ := bd_eq e
  obtain ⟨ts, e2, e⟩ := ob_eq e
  have e3 : (if ts.length + 1 < 4096 then some (PV.int (nubS ts).length, h1) else none) = some (z, h') := e
  split at e3
  · rename_i hl
    cases e3
    refine ⟨φ, s, h, x, _, rs, rh, e1, fun v φ1 H1 y1 rh1 r1 => ?_⟩
    obtain ⟨l, ev, sq⟩ := txs_of r1 e2
    refine ⟨l, ts.map sx, ev, sq, by rw [List.length_map]; exact hl, fun ds nd mm => ?_⟩
    have el : ds.length = (nubS ts).length := by
      rw [← List.length_map (f := sx) (as := nubS ts)]
      refine nodup_len nd (nodup_map (nubS_ok ts).1) fun y => ?_
      rw [mm y, List.mem_map, List.mem_map]
      exact ⟨fun ⟨t, h1, h2⟩ => ⟨t, ((nubS_ok ts).2 t).mpr h1, h2⟩, fun ⟨t, h1, h2⟩ => ⟨t, ((nubS_ok ts).2 t).mp h1, h2⟩⟩
    rw [el]
    exact w _ φ1 H1 y1 rh1 rfl
  · cases e3
theorem sort_length : ∀ ts : List Tx, (sortS ts).length = ts.length := by
  have ins : ∀ (x : Tx) (l : List Tx), (insS x l).length = l.length + 1 := by
    intro x l
    induction l with
    | nil => rfl
    | cons y l ih =>
      unfold insS
      split
      · rw [List.length_cons, ih, List.length_cons]
      · rfl
  intro ts
  induction ts with
  | nil => rfl
  | cons x l ih =>
    show (insS x (sortS l)).length = _
    rw [ins, ih, List.length_cons]
theorem nub_length : ∀ ts : List Tx, (nubS ts).length ≤ ts.length
  | [] => Nat.le_refl _
  | x :: l => by
    unfold nubS
    have := nub_length l
    split
    · rw [List.length_cons]; omega
    · rw [List.length_cons, List.length_cons]; omega
theorem r_sortSet (C : Cok X k) (hm : X.mg "sorted" = none) (hm2 : X.mg "set" = none) (ha : PE X a (tD X.K ca ma)) (hg : Gl X "sorted" := by unfold Gl; kernel_rfl) (hg2 : Gl X "set" := by unfold Gl; kernel_rfl) (na : starEach [a] X.env = (false, eval a X.env) :: starEach [] X.env := by rfl) :
    PE X (.Call (.Name "sorted" p) [.Call (.Name "set" p2) [a] [] q] [] pos) (tD X.K ca (xSortSet ma)) := by
  refine wkE (pe_sortedSetS C.calm hg hm hg2 hm2 ha na) fun σ H Q w => ?_
  obtain ⟨φ, s, h, z, h', rs, rh, e, w⟩ := w
  obtain ⟨x, h1, e1, e⟩ := bd_eq e
  obtain ⟨ts, e2, e⟩ := ob_eq e
  have e3 : (if ts.length < 64 then some (PV.lst ((sortS (nubS ts)).map .str), h1) else none) = some (z, h') := e
  split at e3
  · rename_i hl
    cases e3
    refine ⟨φ, s, h, x, _, rs, rh, e1, fun v φ1 H1 y1 rh1 r1 => ?_⟩
    obtain ⟨l, ev, sq⟩ := txs_of r1 e2
    have fit := txs_fit r1 e2
    refine ⟨l, ts.map sx, ev, sq, ?_, ?_, fun ys pa so nd mm hp => ?_⟩
    · rw [List.length_map]
      show ts.length + 1 < 4096
      omega
    · rw [List.length_map]
      exact hl
    · rw [sortedS_unique so nd mm]
      have mem : ∀ t ∈ sortS (nubS ts), t ∈ ts := fun t ht => ((nubS_ok ts).2 t).mp (((sortS_ok _ (nubS_ok ts).1).2.2 t).mp ht)
      refine new_lst rh1 (strs_rvs fun t ht => fit t (mem t ht)) ?_ (fun v φ2 H2 y2 rh2 r2 => w v φ2 H2 (y1.trans y2) rh2 r2) pa hp
      rw [List.length_map, sort_length, sizeLine_eq]
      have := nub_length ts
      omega
  · cases e3
end
end Lt

set_option maxRecDepth 100000
namespace Lt
open PySem
section
abbrev dK : Str := "default"
variable {prog : Program} {w : World} {A : Around} {R : Result → Shared → Prop} {I : Addr} {fp wr : List Addr} {n : Nat} {P : Nat → Value → Prop} {St : Nat → Heap → Prop} {dv : Value}
theorem mx_loop (W : Walks prog w A.in1 I fp wr n P St) (bt : Nat → Nat → Bool) (hcmp : CmpOf prog w A.in1 .Gt P bt) (S : Addr) (hSf : S ∉ fp) :
    ∀ (k j : Nat) (s : Shared) (vb : Value) (c : Nat), n - (j + 1) = k → j + 1 ≤ n → St (j + 1) s.heap → P (argBest bt j) vb →
    s.heap.get? S = some { cls := .type "list", dict := none, data := .seq #[vb, vb] c, slots := #[] } →
    (∀ v h' tk, P (argBest bt (n - 1)) v → (∀ b o, b ∉ wr → b ≠ S → s.heap.get? b = some o → h'.get? b = some o) → R (.ok (.ret v)) { s with heap := h', toks := tk }) →
    codeAny (model prog w) A (.builtin "max.loop" ⟨[.ref I, .none, .ref S], [(dK, dv)]⟩) R s := by
  have hSw : S ∉ wr := fun h => hSf (W.sub _ h)
  have hname : (toString "max" ++ toString ".loop" : String) = "max.loop" := by decide
  intro k
  induction k with
  | zero =>
    intro j s vb c hk hj hst hPb hS hR
    have hin : j + 1 = n := by omega
    refine codeAny_builtin F.entry_max_loop ?_
    rw [Around.under_plainId F.plain_max_loop _]
    show wpAny _ A.in1 (seqItems? (.ref S) >>= _) _ _ s
    refine wpAny_bind (wpAny_seqItems hS rfl ?_)
    show wpAny _ A.in1 (tryCatch (pyNext (.ref I)) _ >>= _) _ _ s
    refine wpAny_bind (wpAny_tryCatch (W.done s _ _ (hin ▸ hst) fun h' tk hk' => ?_))
    have hS' := hk' S _ hSw hS
    show wpAny _ A.in1 (updateSeq S (fun _ => #[]) >>= _) _ _ _
    refine wpAny_bind ?_
    refine wpAny_updateSeq hS' rfl (wpAny_bind (wpAny_letGo (wpAny_pure ?_)))
    refine hR vb _ tk (by rw [← hin]; exact hPb) fun b o hbw hbS e => (Heap.get?_update_other _ _ (Ne.symm hbS)).trans (hk' b o hbw e)
  | succ k ih =>
    intro j s vb c hk hj hst hPb hS hR
    have hlt : j + 1 < n := by omega
    refine codeAny_builtin F.entry_max_loop ?_
    rw [Around.under_plainId F.plain_max_loop _]
    show wpAny _ A.in1 (seqItems? (.ref S) >>= _) _ _ s
    refine wpAny_bind (wpAny_seqItems hS rfl ?_)
    show wpAny _ A.in1 (tryCatch (pyNext (.ref I)) _ >>= _) _ _ s
    refine wpAny_bind (wpAny_tryCatch (W.item (j + 1) s _ _ hlt hst fun v h' tk hP hst' hk' => ?_))
    have hS' := hk' S _ hSw hS
    show wpAny _ A.in1 (tryCatch (holding [v, v] (richCompare .Gt v vb >>= _)) _ >>= _) _ _ _
    refine wpAny_bind (wpAny_tryCatch (wpAny_holding (wpAny_bind (hcmp (j + 1) (argBest bt j) v vb _ _ _ hP hPb ?_))))
    refine wpAny_bind (wpAny_holding (wpAny_truthy_bool ?_))
    refine wpAny_bind (wpAny_letGo (wpAny_pure ?_))
    cases hb : bt (j + 1) (argBest bt j) with
    | true =>
      simp only [if_true]
      refine wpAny_bind ?_
      refine wpAny_updateSeq hS' rfl (wpAny_bind (wpAny_letGo ?_))
      rw [hname]
      refine wpAny_pure ⟨plainId_quiet F.plain_max_loop _, ih (j + 1) _ v _ (by omega) hlt (W.frame _ _ _ hst' fun b hbf o e => ?_) (by simp only [argBest, hb, if_true]; exact hP) (Heap.get?_update_self _ hS' rfl)
        fun v' h'' tk'' hP' hk'' => ?_⟩
      · exact (Heap.get?_update_other _ _ (fun h : S = b => hSf (by rw [h]; exact hbf))).trans e
      · exact hR v' h'' tk'' hP' fun b o hbw hbS e => hk'' b o hbw hbS ((Heap.get?_update_other _ _ (Ne.symm hbS)).trans (hk' b o hbw e))
    | false =>
      simp only [Bool.false_eq_true, if_false]
      refine wpAny_bind (wpAny_letGo ?_)
      rw [hname]
      refine wpAny_pure ⟨plainId_quiet F.plain_max_loop _, ih (j + 1) _ vb c (by omega) hlt hst' (by simp only [argBest, hb, Bool.false_eq_true, if_false]; exact hPb) hS' fun v' h'' tk'' hP' hk'' => ?_⟩
      exact hR v' h'' tk'' hP' fun b o hbw hbS e => hk'' b o hbw hbS (hk' b o hbw e)
theorem mx_first (W : Walks prog w A.in1 I fp wr n P St) (bt : Nat → Nat → Bool) (hcmp : CmpOf prog w A.in1 .Gt P bt) (S : Addr) (hSf : S ∉ fp) (hn : 0 < n) {s : Shared} {c : Nat} (hst : St 0 s.heap)
    (hS : s.heap.get? S = some { cls := .type "list", dict := none, data := .seq #[] c, slots := #[] })
    (hR : ∀ v h' tk, P (argBest bt (n - 1)) v → (∀ b o, b ∉ wr → b ≠ S → s.heap.get? b = some o → h'.get? b = some o) → R (.ok (.ret v)) { s with heap := h', toks := tk }) :
    codeAny (model prog w) A (.builtin "max.loop" ⟨[.ref I, .none, .ref S], [(dK, dv)]⟩) R s := by
  have hSw : S ∉ wr := fun h => hSf (W.sub _ h)
  have hname : (toString "max" ++ toString ".loop" : String) = "max.loop" := by decide
  refine codeAny_builtin F.entry_max_loop ?_
  rw [Around.under_plainId F.plain_max_loop _]
  show wpAny _ A.in1 (seqItems? (.ref S) >>= _) _ _ s
  refine wpAny_bind (wpAny_seqItems hS rfl ?_)
  show wpAny _ A.in1 (tryCatch (pyNext (.ref I)) _ >>= _) _ _ s
  refine wpAny_bind (wpAny_tryCatch (W.item 0 s _ _ hn hst fun v h' tk hP hst' hk' => ?_))
  have hS' := hk' S _ hSw hS
  show wpAny _ A.in1 (updateSeq S (fun _ => #[v, v]) >>= _) _ _ _
  refine wpAny_bind ?_
  refine wpAny_updateSeq hS' rfl ?_
  rw [hname]
  refine wpAny_pure ⟨plainId_quiet F.plain_max_loop _, mx_loop W bt hcmp S hSf _ 0 _ v _ rfl hn (W.frame _ _ _ hst' fun b hbf o e => ?_) hP (Heap.get?_update_self _ hS' rfl) fun v' h'' tk'' hP' hk'' => ?_⟩
  · exact (Heap.get?_update_other _ _ (fun h : S = b => hSf (by rw [h]; exact hbf))).trans e
  · exact hR v' h'' tk'' hP' fun b o hbw hbS e => hk'' b o hbw hbS ((Heap.get?_update_other _ _ (Ne.symm hbS)).trans (hk' b o hbw e))
end

section
theorem mx_none (W : Walks prog w A.in1 I fp wr 0 P St) (S : Addr) (hSf : S ∉ fp) {s : Shared} {c : Nat} (hst : St 0 s.heap)
    (hS : s.heap.get? S = some { cls := .type "list", dict := none, data := .seq #[] c, slots := #[] })
    (hR : ∀ h' tk, (∀ b o, b ∉ wr → s.heap.get? b = some o → h'.get? b = some o) → R (.ok (.ret dv)) { s with heap := h', toks := tk }) :
    codeAny (model prog w) A (.builtin "max.loop" ⟨[.ref I, .none, .ref S], [(dK, dv)]⟩) R s := by
  refine codeAny_builtin F.entry_max_loop ?_
  rw [Around.under_plainId F.plain_max_loop _]
  show wpAny _ A.in1 (seqItems? (.ref S) >>= _) _ _ s
  refine wpAny_bind (wpAny_seqItems hS rfl ?_)
  show wpAny _ A.in1 (tryCatch (pyNext (.ref I)) _ >>= _) _ _ s
  refine wpAny_bind (wpAny_tryCatch (W.done s _ _ hst fun h' tk hk' => ?_))
  show wpAny _ A.in1 (rule _ >>= _) _ _ _
  refine wpAny_bind (wpAny_rule ?_)
  refine wpAny_pure ?_
  exact hR h' tk hk'
end
theorem args_maxD (a d : Value) : argsOk "max" ⟨[a], [(dK, d)]⟩ := by unfold argsOk; kernel_rfl
section
variable {prog : Program} {w : World} {A : Around} {E : Value → Shared → Prop} {s : Shared}
theorem call_treeA {id : String} {b : Builtin} {args : List Value} {kw : List (Str × Value)} {Q : Value → Shared → Prop} (hk : builtinKind id = none) (hp : plainId id = true)
    (hb : entryFor table id = some b) (ha : argsOk id ⟨args, kw⟩)
    (hc : wpAny (model prog w) A.in1 (b ⟨args, kw⟩) (fun fin s' => match fin with
      | .done f => (match (Except.ok f : Result) with | .ok (.ret v) => Q v s' | .ok _ => False | .error e => E e s')
      | .again c' => c'.quiet = true ∧ codeAny (model prog w) A c' (fun r s' => match r with | .ok (.ret v) => Q v s' | .ok _ => False | .error e => E e s') s') E s) :
    wpAny (model prog w) A (call (.builtin id) args kw) Q E s := by
  refine wpAny_call (codeAny_call_builtin hp hb ?_)
  simp only [checkBuiltinCall, hk]
  cases hsig : Manifest.signature? id with
  | none => exact wpAny_pure hc
  | some sig =>
    simp only [argsOk, hsig] at ha
    have h2 : Bind.checkArgs id sig ⟨args, kw⟩ = pure () := ha
    show wpAny _ A.in1 (Bind.checkArgs id sig ⟨args, kw⟩) _ _ s
    rw [h2]; exact wpAny_pure hc
theorem call_maxD {x d : Value} {Q : Value → Shared → Prop}
    (h : wpAny (model prog w) A.in1 (pyIter x) (fun it s₂ => ∃ I fp wr n P St bt, it = .ref I ∧ Walks prog w A.in1 I fp wr n P St ∧ St 0 s₂.heap ∧ (∀ b ∈ fp, b < s₂.heap.objs.size) ∧ CmpOf prog w A.in1 .Gt P bt ∧
      (∀ v h' tk, 0 < n → P (argBest bt (n - 1)) v → (∀ b o, b ∉ wr → s₂.heap.get? b = some o → h'.get? b = some o) → Q v { s₂ with heap := h', toks := tk }) ∧
      (∀ h' tk, n = 0 → (∀ b o, b ∉ wr → s₂.heap.get? b = some o → h'.get? b = some o) → Q d { s₂ with heap := h', toks := tk })) E s) :
    wpAny (model prog w) A (call (.builtin "max") [x] [(dK, d)]) Q E s := by
  have hname : (toString "max" ++ toString ".loop" : String) = "max.loop" := by decide
  refine call_treeA F.kind_max F.plain_max F.entry_max (args_maxD x d) ?_
  show wpAny _ A.in1 (Builtin.Builtins.bindParams "max" ["key", "default"] 0 ⟨[], [(dK, d)]⟩ >>= _) _ _ s
  refine wpAny_bind (wpAny_of_eq (show Builtin.Builtins.bindParams "max" ["key", "default"] 0 ⟨[], [(dK, d)]⟩ = pure [none, some d] from by kernel_rfl) ?_)
  refine wpAny_bind (wpAny_pure ?_)
  refine wpAny_bind (wpAny_mono h (fun it s₂ h₂ => ?_) fun _ _ e => e)
  obtain ⟨I, fp, wr, n, P, St, bt, rfl, W, hst, hfp, hcmp, hQ, h0⟩ := h₂
  refine wpAny_bind (wpAny_newObj_type ?_)
  have hSf : s₂.heap.objs.size ∉ fp := fun hm => Nat.lt_irrefl _ (hfp _ hm)
  rw [hname]
  have old : ∀ (b : Addr) (o : Obj), s₂.heap.get? b = some o → (s₂.heap.push { cls := .type "list", data := .seq #[] }).get? b = some o := fun b o e => Heap.get?_push_of_some _ e
  by_cases hn : 0 < n
  · refine wpAny_pure ⟨plainId_quiet F.plain_max_loop _, mx_first W bt hcmp s₂.heap.objs.size hSf hn (W.frame _ _ _ hst fun b _ o e => Heap.get?_push_of_some _ e) (Heap.get?_push_size _ rfl) fun v h' tk hP hk => ?_⟩
    exact hQ v h' tk hn hP fun b o hbw e => hk b o hbw (Nat.ne_of_lt (Heap.lt_size e)) (old b o e)
  · have e0 : n = 0 := by omega
    subst e0
    refine wpAny_pure ⟨plainId_quiet F.plain_max_loop _, mx_none W s₂.heap.objs.size hSf (W.frame _ _ _ hst fun b _ o e => Heap.get?_push_of_some _ e) (Heap.get?_push_size _ rfl) fun h' tk hk => ?_⟩
    exact h0 h' tk rfl fun b o hbw e => hk b o hbw (old b o e)
end
open PySem.Spec L2
/-- max(l, default=d) of ints -/
def maxDV (d : Int) : List Int → Int
  | [] => d
  | i :: r => r.foldl (fun a b => if b > a then b else a) i
def xMaxD (l d : XE) : XE := fun s h => bd (l s h) fun x h => bd (d s h) fun y h => match x, y with
  | .lst l, .int d => ob (intsV l) fun ns => some (.int (maxDV d ns), h)
  | _, _ => none
def rMaxD (K : PySem.W.Frag) : List V → List V → Hp → VK → Prop := fun vs zs H Q => ∃ (a : Addr) (ns : List Int) (d : Int), vs = [V.ref a] ∧ zs = [V.int d] ∧ SqL K H a (ns.map V.int) ∧ Q (.int (maxDV d ns)) H
open PyProof.Rows in
theorem maxD_raw {prog : Program} {w : World} {A : Around} {E : Value → Shared → Prop} {s : Shared} {l : Addr} {its : List Value} {ns : List Int} {d : Value} {Q : Value → Shared → Prop} (hh : A.handled = none) (hl : s.heap.IsList l its.toArray) (hi : PyProof.Rows.IntsAre its ns)
    (h : ∀ h' tk v, (∀ b o, s.heap.get? b = some o → h'.get? b = some o) → (ns = [] ∧ v = d ∨ ∃ M t', v = .int M t' ∧ M ∈ ns ∧ ∀ a, a ∈ ns → a ≤ M) → Q v { s with heap := h', toks := tk }) : wpAny (model prog w) A (call (.builtin "max") [.ref l] [(dK, d)]) Q E s := by
  obtain ⟨xs, e⟩ := hi.allInts.items
  have hn : numsOf (intItems xs).toList = ns := by rw [← e]; exact hi.numsOf
  rw [nums_intItems] at hn
  subst hn
  rw [e] at hl
  refine call_maxD (iter_intList hl fun s₂ e st hfp hlI => ?_)
  subst e
  refine ⟨_, _, _, _, _, _, _, rfl, Walks.list (A := A.in1) hh _ l hlI (intItems xs), st, hfp, CmpOf.ints_gt (numAt xs) (fun _ _ => intItems_at), fun v h' tk hn hP hk => ?_, fun h' tk hn hk => ?_⟩
  · have hsz : 0 < xs.size := by simpa [intItems] using hn
    have hv : (intItems xs)[argBest (fun i j => decide (numAt xs i > numAt xs j)) (xs.size - 1)]? = some v := by simpa [intItems] using hP
    obtain ⟨t, ev⟩ := intItems_at hv
    subst ev
    obtain ⟨h1, h2⟩ := argBest_gt (numAt xs) (xs.size - 1)
    refine h h' tk _ (old_kept hk) (.inr ⟨_, t, rfl, ?_, fun a ha => ?_⟩)
    · rw [numAt_eq]; exact PySem.getD_mem (by rw [List.length_map, Array.length_toList]; omega)
    · obtain ⟨j, hj, rfl⟩ := mem_getD ha
      rw [List.length_map, Array.length_toList] at hj
      rw [← numAt_eq]; exact h2 j (by omega)
  · have hsz : xs.size = 0 := by simpa [intItems] using hn
    refine h h' tk d (old_kept hk) (.inl ⟨?_, rfl⟩)
    have : xs.toList = [] := by
      rw [← List.length_eq_zero_iff, Array.length_toList]
      exact hsz
    rw [this]
    rfl
theorem cr_maxD {X : Cx} (hc : X.calm = true) : CallRK X (.builtin "max") [dK] (rMaxD X.K) := by
  intro pins s σ H vs zs us ws Q I r rz h
  obtain ⟨a, ns, d, rfl, rfl, hs, q⟩ := h
  obtain ⟨its, rv, hl, _⟩ := I.list hs
  rw [Vals.ref1 r]
  obtain ⟨w1, rfl, e1⟩ := vals1 rz
  obtain ⟨t1, rfl⟩ := e1
  refine maxD_raw (I.ok.hd hc) hl.isList rv.ints fun h' tk v hk hv => ?_
  rcases hv with ⟨en, ev⟩ | ⟨M, t', ev, hm, hall⟩
  · subst en ev
    exact ⟨.int d, H, I.kept hk, ⟨_, rfl⟩, q⟩
  · subst ev
    refine ⟨.int M, H, I.kept hk, ⟨_, rfl⟩, ?_⟩
    cases ns with
    | nil => cases hm
    | cons i ns =>
      obtain ⟨g1, g2⟩ := foldl_max ns i
      have : M = maxDV d (i :: ns) := Int.le_antisymm (g2 M hm) (hall _ g1)
      rw [this]
      exact q
theorem r_maxD {X : Cx} {ca : CA} {k : Nat} {a b : Expr} {p kp pos : Pos} {ma mb : XE} (C : Cok X k) (hm : X.mg "max" = none) (ha : PE X a (tD X.K ca ma)) (hb : PE X b (tD X.K ca mb)) (hg : Gl X "max" := by unfold Gl; kernel_rfl)
    (hs : starEach [a] X.env = (false, eval a X.env) :: starEach [] X.env := by rfl) (he : backTo pos (starEach [a] X.env) = (false, eval a X.env) :: backTo pos (starEach [] X.env) := by rfl) (hpl : (backTo pos (starEach [a] X.env)).any (·.1) = false := by rfl) :
    PE X (.Call (.Name "max" p) [a] [⟨some dK, b, kp⟩] pos) (tD X.K ca (xMaxD ma mb)) := by
  refine wkE (pe_callBK (cr_maxD C.calm) hg hm (show bootBuiltins "max" = some (.builtin "max") from by decide +kernel) (pa_cons ha pa_nil hs) (pk_cons hb pk_nil) (by decide) (by decide) he hpl rfl rfl rfl) fun σ H Q w => ?_
  obtain ⟨φ, s, h, z, h', rs, rh, e, w⟩ := w
  obtain ⟨x, h1, e1, e⟩ := bd_eq e
  obtain ⟨y, h2, e2, e⟩ := bd_eq e
  refine ⟨φ, s, h, x, h1, rs, rh, e1, fun v φ1 H1 y1 rh1 r1 => ⟨φ1, s, h1, y, h2, rs.ext y1.toExt0, rh1, e2, fun u φ2 H2 y2 rh2 r2 => ?_⟩⟩
  cases x with
  | lst l => cases y with
    | int d =>
      obtain ⟨ns, e3, e4⟩ := ob_eq e
      cases e4
      obtain ⟨a, us, ev, f, _, rs2⟩ := RV.ext y2.toExt0 _ _ r1
      subst ev
      exact ⟨a, ns, d, rfl, by rw [show u = .int d from r2], by rw [← intsV_vs e3 rs2]; exact .inl (.inl f.1), w _ φ2 H2 (y1.trans y2) rh2 rfl⟩
    | _ => cases e
  | _ => cases e
end Lt

set_option maxRecDepth 100000
namespace Lt
open PySem PySem.Spec L2
abbrev XP := PV → Option (Option (List (Nat × PV)))
def pWild : XP := fun _ => some (some [])
def pCap (i : Nat) : XP := fun x => some (some [(i, x)])
def pLit (t : Tx) : XP := fun x => (eqV x (.str t)).map fun b => if b then some [] else none
/-- one of some texts -/
def pOrs : List XP → XP
  | [], _ => some none
  | f :: fs, x => match f x with
    | none => none
    | some none => pOrs fs x
    | some (some _) => some (some [])
def pEach : List XP → List PV → Option (Option (List (Nat × PV)))
  | [], _ => some (some [])
  | _ :: _, [] => some (some [])
  | f :: fs, x :: xs => match f x with
    | none => none
    | some none => some none
    | some (some bs) => match pEach fs xs with
      | none => none
      | some none => some none
      | some (some more) => some (some (bs ++ more))
def pSeq (fs : List XP) : XP := fun x => match x with
  | .tup l => if l.length = fs.length then pEach fs l else some none
  | .str _ => some none
  | .int _ => some none
  | .bl _ => some none
  | .non => some none
  | _ => none
def bindB : List (Nat × PV) → Sl → Sl
  | [], s => s
  | (i, x) :: r, s => bindB r (s.set i (some x))
abbrev XM := PV → Sl → PH → Option Out
def mNil : XM := fun _ s h => some (.nx s h)
def mCase (f : XP) (b : XS) (r : XM) : XM := fun x s h => match f x with
  | none => none
  | some none => r x s h
  | some (some bs) => b (bindB bs s) h
def sMa (e : XE) (m : XM) : XS := fun s h => bd (e s h) fun x h => m x s h
section
variable (X : Cx) (ca : CA)
def Bs (φ : Pl) (H : Hp) : List (Str × Value) → List (Nat × PV) → Prop
  | [], [] => True
  | (n, u) :: r, (i, x) :: q => (X.N[i]? = some n ∧ Loc X.env.scope n ∧ (X.fn n = true ∨ X.env.scope.names.lookup n = some .local) ∧ ∃ v, RelV v u ∧ RV X.K ca φ H x v) ∧ Bs φ H r q
  | _, _ => False
def BsO (φ : Pl) (H : Hp) : Option (List (Str × Value)) → Option (List (Nat × PV)) → Prop
  | none, none => True
  | some a, some b => Bs X ca φ H a b
  | _, _ => False
structure PP (p : Pattern) (f : XP) : Prop where
  run : ∀ (pins : List (Addr × Obj)) (s : Shared) (σ : St) (φ : Pl) (H : Hp) (x : PV) (v : V) (u : Value) (r : Option (List (Nat × PV))) (Q : Option (List (Str × Value)) → Shared → Prop), Inv X pins σ H s → RV X.K ca φ H x v → RelV v u → f x = some r →
    (∀ r' s', Inv X pins σ H s' → BsO X ca φ H r' r → Q r' s') → wpAny (model X.prog X.w) X.A (matchPattern p X.env u) Q X.xe s
structure PPs (ps : List Pattern) (fs : List XP) : Prop where
  run : ∀ (pins : List (Addr × Obj)) (s : Shared) (σ : St) (φ : Pl) (H : Hp) (l : List PV) (vs : List V) (us : List Value) (r : Option (List (Nat × PV))) (Q : Option (List (Str × Value)) → Shared → Prop), Inv X pins σ H s → RVs X.K ca φ H l vs → Vals vs us → l.length = fs.length → pEach fs l = some r →
    (∀ r' s', Inv X pins σ H s' → BsO X ca φ H r' r → Q r' s') → wpAny (model X.prog X.w) X.A (matchEach ps X.env us) Q X.xe s
  len : ps.length = fs.length
structure PFs (ps : List Pattern) (fs : List XP) : Prop where
  run : ∀ (pins : List (Addr × Obj)) (s : Shared) (σ : St) (φ : Pl) (H : Hp) (x : PV) (v : V) (u : Value) (r : Option (List (Nat × PV))) (Q : Option (List (Str × Value)) → Shared → Prop), Inv X pins σ H s → RV X.K ca φ H x v → RelV v u → pOrs fs x = some r →
    (∀ (r' : Option (List (Str × Value))) s', Inv X pins σ H s' → r'.isSome = r.isSome → Q r' s') → wpAny (model X.prog X.w) X.A (matchFirst ps X.env u) Q X.xe s
structure PMa (cs : List MatchCase) (m : XM) : Prop where
  run : ∀ (pins : List (Addr × Obj)) (s : Shared) (σ : St) (φ : Pl) (H : Hp) (x : PV) (v : V) (u : Value) (sl : Sl) (h : PH) (o : Out) (D : Ends) (b : Bool), Inv X pins σ H s → RV X.K ca φ H x v → RelV v u → RS X.K ca φ H sl σ → RH X.K ca φ h H → m x sl h = some o → PstO X.K ca φ H o D →
    wpAny (model X.prog X.w) X.A (matchCases cs X.env u b) (SP X pins D) X.xe s
end
theorem eq_str {K : PySem.W.Frag} {ca : CA} {φ : Pl} {H : Hp} {x : PV} {v u : V} {t : Tx} {b : Bool} {Q : VK} (r1 : RV K ca φ H x v) (r2 : RV K ca φ H (.str t) u) (e : eqV x (.str t) = some b) (q : Q (.bl b) H) : rEqV K false v u H Q := by
  have e1 : (match x.py, (PV.str t).py with
      | some d, some e => if d.depth ≤ 64 ∧ e.depth ≤ 64 then some (PyData.eqv d e) else none
      | _, _ => none) = some b := by
    unfold eqV at e
    split at e
    all_goals first | exact e | (rename_i h; cases h) | (rename_i h _; cases h)
  cases ed : x.py with
  | none => rw [ed] at e1; cases e1
  | some d =>
    rw [ed] at e1
    have e2 : (if d.depth ≤ 64 ∧ (PyData.str (sx t)).depth ≤ 64 then some (PyData.eqv d (.str (sx t))) else none) = some b := e1
    split at e2
    · rename_i hd
      cases e2
      obtain ⟨p1, c1⟩ := RV.dp x v d r1 ed
      obtain ⟨p2, c2⟩ := RV.dp (.str t) u (.str (sx t)) r2 rfl
      have sh : ∀ {d : PyData}, d.canLay0 = true → d.depth ≤ 64 → SeqAt.shaped d = true := fun c hd => by
        unfold SeqAt.shaped
        rw [c, decide_eq_true hd]
        rfl
      exact .inl ⟨d, _, p1, p2, sh c1 hd.1, sh c2 hd.2, q⟩
    · cases e2
section
variable {X : Cx} {ca : CA} {k : Nat} {pos : Pos} {p : Pattern} {ps : List Pattern} {f : XP} {fs : List XP}
theorem p_wild : PP X ca (.MatchAs none none pos) pWild := ⟨fun pins s σ φ H x v u r Q I rx rv e q => by
  cases e
  exact wpAny_matchPattern_Capture (q _ s I trivial)⟩
theorem p_cap {n : Str} {i : Nat} (hi : X.N[i]? = some n := by rfl) (hx : Loc X.env.scope n := by refine loc_of ?_; kernel_rfl) (hf : X.fn n = true ∨ X.env.scope.names.lookup n = some .local := by exact .inl rfl) : PP X ca (.MatchAs none (some n) pos) (pCap i) := ⟨fun pins s σ φ H x v u r Q I rx rv e q => by
  cases e
  exact wpAny_matchPattern_Capture (q _ s I ⟨⟨hi, hx, hf, v, rv, rx⟩, trivial⟩)⟩
theorem p_lit {t : Tx} {w : Str} {j : Nat} {p2 : Pos} (C : Cok X k) (ew : w = sx t := by rfl) (z : t.length ≤ 4096 := by decide) (c : t.all (· < 0x110000) = true := by decide) : PP X ca (.MatchValue (.Constant (.str w) j p2) pos) (pLit t) := by
  subst ew
  refine ⟨fun pins s σ φ H x v u r Q I rx rv e q => ?_⟩
  have e' : (eqV x (.str t)).map (fun b => if b then some [] else none) = some r := e
  cases e1 : eqV x (.str t) with
  | none => rw [e1] at e'; cases e'
  | some b =>
    rw [e1] at e'
    cases e'
    have rt : RV X.K ca φ H (.str t) (.str (sx t)) := ⟨rfl, Nat.le_trans z (by rw [sizeLine_eq]; decide), c⟩
    refine wpAny_matchPattern_Value (Calls.Constant_str ?_)
    have I1 : Inv X pins σ H { s with toks := s.toks + 1 } := I.tok _
    refine thn (op_eqX (X := X) (by have := C.u; omega) pins _ σ H v (.str (sx t)) u _ (fun z H' => z = .bl b ∧ H' = H) I1 rv ⟨_, rfl⟩ ?_) fun w s2 ⟨z, H2, I2, rz, ez, eH⟩ => ?_
    · exact eq_str rx rt e1 ⟨rfl, rfl⟩
    · subst ez eH
      obtain rfl : w = Value.bool b := rz
      refine wpAny_truthy_bool ?_
      cases b with
      | true => exact q _ s2 I2 trivial
      | false => exact q _ s2 I2 trivial
theorem fs_nil : PFs X ca [] [] := ⟨fun pins s σ φ H x v u r Q I rx rv e q => by
  cases e
  exact wpAny_matchFirst_nil (q none s I rfl)⟩
theorem fs_cons (hp : PP X ca p f) (hr : PFs X ca ps fs) : PFs X ca (p :: ps) (f :: fs) := ⟨fun pins s σ φ H x v u r Q I rx rv e q => by
  have e' : (match f x with
    | none => none
    | some none => pOrs fs x
    | some (some _) => some (some [])) = some r := e
  cases e1 : f x with
  | none => rw [e1] at e'; cases e'
  | some o =>
    rw [e1] at e'
    refine wpAny_matchFirst_cons (hp.run pins s σ φ H x v u o _ I rx rv e1 fun r' s' I' br => ?_)
    cases o with
    | none => cases r' with
      | none => exact hr.run pins s' σ φ H x v u r Q I' rx rv e' q
      | some _ => exact br.elim
    | some bs => cases r' with
      | none => exact br.elim
      | some bs' =>
        cases e'
        exact q _ s' I' rfl⟩
theorem p_ors (h : PFs X ca ps fs) (hn : namesOfAll (ps.take 1) = [] := by rfl) : PP X ca (.MatchOr ps pos) (pOrs fs) := ⟨fun pins s σ φ H x v u r Q I rx rv e q => by
  refine wpAny_matchPattern_Or (h.run pins s σ φ H x v u r _ I rx rv e fun r' s' I' hs => ?_)
  have none_or : ∀ (fs : List XP) (r : Option (List (Nat × PV))), pOrs fs x = some r → r = none ∨ r = some [] := by
    intro fs
    induction fs with
    | nil =>
      intro r e
      cases e
      exact .inl rfl
    | cons g gs ih =>
      intro r e
      have e' : (match g x with
        | none => none
        | some none => pOrs gs x
        | some (some _) => some (some [])) = some r := e
      cases e1 : g x with
      | none => rw [e1] at e'; cases e'
      | some o =>
        rw [e1] at e'
        cases o with
        | none => exact ih r e'
        | some bs =>
          cases e'
          exact .inr rfl
  rw [hn]
  rcases none_or fs r e with er | er
  · subst er
    cases r' with
    | none => exact q none s' I' trivial
    | some _ => cases hs
  · subst er
    cases r' with
    | none => cases hs
    | some _ => exact q (some []) s' I' trivial⟩
theorem each_nil : PPs X ca [] [] := ⟨fun pins s σ φ H l vs us r Q I rl rv hl e q => by
  have e' : some (some []) = some r := e
  cases e'
  exact wpAny_matchEach_nil (q _ s I trivial), rfl⟩
theorem Bs.append {φ : Pl} {H : Hp} : ∀ {a b : List (Str × Value)} {c d : List (Nat × PV)}, Bs X ca φ H a c → Bs X ca φ H b d → Bs X ca φ H (a ++ b) (c ++ d)
  | [], _, [], _, _, h => h
  | [], _, _ :: _, _, h, _ => h.elim
  | _ :: _, _, [], _, h, _ => h.elim
  | _ :: _, _, _ :: _, _, h, h' => ⟨h.1, Bs.append h.2 h'⟩
theorem each_cons (hp : PP X ca p f) (hr : PPs X ca ps fs) (hs : p.isStar = false := by rfl) : PPs X ca (p :: ps) (f :: fs) := ⟨fun pins s σ φ H l vs us r Q I rl rv hl e q => by
  cases l with
  | nil => simp at hl
  | cons x l =>
    obtain ⟨v, ws, ev, r1, r2⟩ := rl
    subst ev
    cases rv with
    | cons rv1 rv2 =>
      have e' : (match f x with
        | none => none
        | some none => some none
        | some (some bs) => match pEach fs l with
          | none => none
          | some none => some none
          | some (some more) => some (some (bs ++ more))) = some r := e
      cases e1 : f x with
      | none => rw [e1] at e'; cases e'
      | some o =>
        rw [e1] at e'
        refine wpAny_matchEach_cons (hp.run pins s σ φ H x v _ o _ I r1 rv1 e1 fun r' s' I' br => ?_) hs
        cases o with
        | none => cases r' with
          | none =>
            cases e'
            exact q none s' I' trivial
          | some _ => exact br.elim
        | some bs => cases r' with
          | none => exact br.elim
          | some bs' =>
            have e'' : (match pEach fs l with
              | none => none
              | some none => some none
              | some (some more) => some (some (bs ++ more))) = some r := e'
            cases e2 : pEach fs l with
            | none => rw [e2] at e''; cases e''
            | some o2 =>
              rw [e2] at e''
              refine hr.run pins s' σ φ H l ws _ o2 _ I' r2 rv2 (by simpa using hl) e2 fun r2' s2 I2 br2 => ?_
              cases o2 with
              | none => cases r2' with
                | none =>
                  cases e''
                  exact q none s2 I2 trivial
                | some _ => exact br2.elim
              | some more => cases r2' with
                | none => exact br2.elim
                | some more' =>
                  cases e''
                  exact q _ s2 I2 (Bs.append br br2), by rw [List.length_cons, List.length_cons, hr.len]⟩
theorem p_seq (C : Cok X k) (h : PPs X ca ps fs) (hstar : ps.findIdx? (·.isStar) = none := by rfl) (hwild : (ps.all fun p => p.isWildcard || (p.isStar && p.names.isEmpty)) = false := by rfl) : PP X ca (.MatchSequence ps pos) (pSeq fs) := ⟨fun pins s σ φ H x v u r Q I rx rv e q => by
  refine wpAny_matchPattern_Sequence ?_ hstar hwild
  cases x with
  | tup l =>
    obtain ⟨a, vs, ev, f, hz, rs⟩ := rx
    subst ev
    obtain rfl : u = Value.ref a := rv
    obtain ⟨its, rl, ht, hz2⟩ := I.tuple (SqT_of f)
    have e' : (if l.length = fs.length then pEach fs l else some none) = some r := e
    have el : its.length = l.length := by rw [← rl.length, rs.length]
    refine wpAny_collectionFlag ht.typeIs flag_seq_tuple ?_
    show wpAny _ _ (pyLen (.ref a)) _ _ s
    refine PyProof.Rows.pyLen_tuple ht ?_ ?_
    · rw [List.size_toArray, el]
      rw [sizeLine_eq] at hz
      omega
    · have I1 : Inv X pins σ H { s with toks := s.toks + 1 + 1 } := I.tok _
      have ht1 : PyProof.Rows.IsTup ({ s with toks := s.toks + 1 + 1 } : Shared).heap a its.toArray := ht
      by_cases hl : l.length = fs.length
      · rw [if_pos hl] at e'
        have hn : ((its.toArray.size : Int) != (ps.length : Int)) = false := by
          rw [List.size_toArray, el, hl, h.len]
          simp
        rw [hn, if_neg (by simp)]
        have hsz : ps.length = its.toArray.size := by rw [List.size_toArray, el, hl, h.len]
        rw [hsz]
        refine PyProof.Rows.unpackItems_tuple (I.ok.hd C.calm) ht1 fun h' hx => ?_
        have I2 : Inv X pins σ H { s with heap := h', toks := s.toks + 1 + 1 } := I1.kept (t' := s.toks + 1 + 1) fun b o e => hx b o (Nat.ne_of_lt (Heap.lt_size e)) e
        exact h.run pins _ σ φ H l vs its r Q I2 rs rl hl e' q
      · rw [if_neg hl] at e'
        cases e'
        have hn : ((its.toArray.size : Int) != (ps.length : Int)) = true := by
          rw [List.size_toArray, el, h.len]
          refine bne_iff_ne.mpr fun z => hl ?_
          exact_mod_cast z
        rw [hn, if_pos rfl]
        exact q none _ I1 trivial
  | str t =>
    cases e
    obtain ⟨ev, _⟩ := rx
    subst ev
    obtain ⟨t', rfl⟩ := rv
    exact wpAny_collectionFlag (T := "str") rfl flag_seq_str (q none s I trivial)
  | int t =>
    cases e
    obtain rfl : v = .int t := rx
    obtain ⟨t', rfl⟩ := rv
    exact wpAny_collectionFlag (T := "int") rfl flag_seq_int (q none s I trivial)
  | bl t =>
    cases e
    obtain rfl : v = .bl t := rx
    obtain rfl : u = Value.bool t := rv
    exact wpAny_collectionFlag (T := "bool") rfl flag_seq_bool (q none s I trivial)
  | non =>
    cases e
    obtain rfl : v = .non := rx
    obtain rfl : u = Value.none := rv
    exact wpAny_collectionFlag (T := "NoneType") rfl flag_seq_None (q none s I trivial)
  | _ => cases e⟩
theorem bind_ok {φ : Pl} {H : Hp} {pins : List (Addr × Obj)} {Q : Unit → Shared → Prop} (hN : X.N.Nodup) : ∀ {a : List (Str × Value)} {c : List (Nat × PV)} {s : Shared} {σ : St} {sl : Sl}, Inv X pins σ H s → Bs X ca φ H a c → RS X.K ca φ H sl σ →
    (∀ s' σ', Inv X pins σ' H s' → RS X.K ca φ H (bindB c sl) σ' → Q () s') → wpAny (model X.prog X.w) X.A (assignInOrder (a.map fun (n, _) => bindName X.env n) (a.map (·.2))) Q X.xe s
  | [], [], s, σ, sl, I, _, rs, q => wpAny_assignInOrder_none (q s σ I rs)
  | [], _ :: _, _, _, _, _, h, _, _ => h.elim
  | _ :: _, [], _, _, _, _, h, _, _ => h.elim
  | (n, u) :: a, (i, x) :: c, s, σ, sl, I, h, rs, q => by
    obtain ⟨⟨hi, hx, hf, v, rv, rx⟩, h⟩ := h
    refine wpAny_assignInOrder_more (wpAny_bindName (store_ok I hN hi hx rv (fun s1 I1 => ?_) hf))
    exact bind_ok hN I1 h (rs.set rx) q
variable {body : List Stmt} {cs : List MatchCase} {mb : XS} {mr : XM} {me : XE} {subject : Expr}
theorem ma_nil : PMa X ca [] mNil := ⟨fun pins s σ φ H x v u sl h o D b I rx rv rs rh e q => by
  cases e
  exact wpAny_matchCases_nil ⟨σ, H, I, q σ φ H Ext.refl rh rs⟩⟩
theorem ma_cons (C : Cok X k) (hp : PP X ca p f) (hb : PSs X body (tDS X.K ca mb)) (hr : PMa X ca cs mr) : PMa X ca (⟨p, none, body⟩ :: cs) (mCase f mb mr) := ⟨fun pins s σ φ H x v u sl h o D b I rx rv rs rh e q => by
  have e' : (match f x with
    | none => none
    | some none => mr x sl h
    | some (some bs) => mb (bindB bs sl) h) = some o := e
  cases e1 : f x with
  | none => rw [e1] at e'; cases e'
  | some r =>
    rw [e1] at e'
    refine wpAny_matchCases_cons (hp.run pins s σ φ H x v u r _ I rx rv e1 fun r' s' I' br => ?_)
    cases r with
    | none => cases r' with
      | none => exact hr.run pins s' σ φ H x v u sl h o D false I' rx rv rs rh e' q
      | some _ => exact br.elim
    | some bs => cases r' with
      | none => exact br.elim
      | some bs' =>
        refine bind_ok C.nd I' br rs fun s2 σ2 I2 rs2 => ?_
        exact hb.run pins s2 σ2 H D I2 ⟨φ, bindB bs sl, h, o, rs2, rh, e', q⟩⟩
theorem s_ma (he : PE X subject (tD X.K ca me)) (hm : PMa X ca cs mr) : PS X (.Match subject cs pos) (tDS X.K ca (sMa me mr)) := ⟨fun pins s σ H D I q => by
  obtain ⟨φ, sl, h, o, rs, rh, e, q⟩ := q
  obtain ⟨x, h1, e1, e2⟩ := bd_eq e
  refine wpAny_Match (thn (he.run pins s σ H (fun v H' => ∃ φ', Ext φ H φ' H' ∧ RH X.K ca φ' h1 H' ∧ RV X.K ca φ' H' x v) I ⟨φ, sl, h, x, h1, rs, rh, e1, fun v φ' H' y rh' r => ⟨φ', y, rh', r⟩⟩) fun u s1 ⟨v, H1, I1, rv, φ1, y, rh1, rx⟩ => ?_)
  exact hm.run pins s1 σ φ1 H1 x v u sl h1 o D true I1 rx rv (rs.ext y.toExt0) rh1 e2 (q.ext y)⟩
end
end Lt

set_option maxRecDepth 100000
namespace Lt
open PySem PySem.Spec L2
section
variable {K : PySem.W.Frag} {ca : CA} {φ φ' : Pl} {h h1 : PH} {H H' : Hp}
theorem gc_ok {frz : Bool} {v z : PV} {h2 : PH} {u : V} (rh : RH K ca φ h H) (y : Ext φ H φ' H') (rh1 : RH K ca φ' h1 H') (rv : RV K ca φ' H' v u) (e : gc frz h.length v h1 = (z, h2)) : ∃ φ2, Ext φ H φ2 H' ∧ RH K ca φ2 h2 H' ∧ RV K ca φ2 H' z u := by
  obtain ⟨r, er⟩ := y.pre
  obtain ⟨pl', px'⟩ := φ'
  have er : pl' = φ.l ++ r := er
  subst er
  have hn : φ.l.length = h.length := rh.len
  rw [← hn] at e
  unfold gc at e
  split at e
  · cases e
    exact ⟨_, y, rh1, rv⟩
  · split at e
    · rename_i hc
      have y2 : Ext φ H ⟨φ.l, px'⟩ H' := Ext.less y
      have rh2 := RH.less rh1 hc
      split at e
      · rename_i hv
        cases e
        exact ⟨⟨φ.l, px'⟩, y2, rh2, RV.less _ _ rv hv⟩
      · split at e
        · rename_i m hv
          split at e
          · rename_i hm
            obtain ⟨p, ep, eu⟩ := rv
            obtain ⟨o, eo, ro⟩ := rh1.pl ep
            have yo := RH.younger rh1 ep hm.2
            split at e
            · rename_i l el
              rw [eo] at el
              cases el
              split at e
              · rename_i hcl
                cases e
                obtain ⟨⟨e2, hz⟩, vs, f, rs⟩ := ro
                exact ⟨⟨φ.l, px'⟩, y2, rh2, p.1, vs, eu, ⟨f, yo.1⟩, hz, RVs.less _ _ rs hcl⟩
              · cases e
                exact ⟨_, y, rh1, p, ep, eu⟩
            · rename_i ks l el
              rw [eo] at el
              cases el
              split at e
              · rename_i hcl
                cases e
                obtain ⟨e2, vs, f, hz, rs⟩ := ro
                exact ⟨⟨φ.l, px'⟩, y2, rh2, p.1, vs, eu, ⟨.inl f, yo.1⟩, hz, RVs.less _ _ rs hcl⟩
              · cases e
                exact ⟨_, y, rh1, p, ep, eu⟩
            · cases e
              exact ⟨_, y, rh1, p, ep, eu⟩
          · cases e
            exact ⟨_, y, rh1, rv⟩
        · cases e
          exact ⟨_, y, rh1, rv⟩
    · cases e
      exact ⟨_, y, rh1, rv⟩
end
structure FnS where
  ps : Nat
  dfl : List PV
  sl : Nat
  frz : Bool
  body : (Nat → XC) → XS
def runS (d : FnS) (cf : Nat → XC) : XC := fun l h =>
  let a := l ++ d.dfl.drop (d.dfl.length + l.length - d.ps)
  if a.length = d.ps then
    match d.body cf (a.map some ++ List.replicate (d.sl - d.ps) none) h with
    | some (.rt v h1) => some (gc d.frz h.length v h1)
    | some (.nx _ h1) => some (gc d.frz h.length .non h1)
    | _ => none
  else none
def callS (T : Nat → Option FnS) : Nat → Nat → XC
  | 0, _ => fun _ _ => none
  | k + 1, f => fun l h => ob (T f) fun d => runS d (callS T k) l h
section
variable {P : Program} {w : World} {K : PySem.W.Frag} {ca : CA} {mg : Str → Option Value} {base : Heap} {k : Nat} {f : Addr} {x qual : Str} {params : Arguments} {body : List Stmt} {scope : Scope} {kws : List (Str × V)} {fd : FuncData} {N ps : List Str} {d : FnS} {cf : Nat → XC} {dvs : List V}
/-- how a def binds n written values: some defaults are appended -/
def BindsD (K : PySem.W.Frag) (fd : FuncData) (ps : List Str) (dvs : List V) : Prop := ∀ n, n ≤ ps.length → ps.length ≤ n + dvs.length → ∃ ds, Vals (dvs.drop (dvs.length + n - ps.length)) ds ∧ Binds K fd ps ds
theorem start_rs {φ : Pl} {H : Hp} {a : List PV} {vs : List V} {n : Nat} (r : RVs K ca φ H a vs) : RS K ca φ H (a.map some ++ List.replicate n none) (vs.map some ++ List.replicate n none) := by
  refine ⟨by simp [r.length], fun i x e => ?_⟩
  by_cases hi : i < a.length
  · rw [List.getElem?_append_left (by simpa using hi), List.getElem?_map] at e
    cases e1 : a[i]? with
    | none => rw [e1] at e; cases e
    | some y =>
      rw [e1] at e
      cases e
      obtain ⟨v, ev, rv⟩ := r.get e1
      refine ⟨v, ?_, rv⟩
      rw [List.getElem?_append_left (by simpa [← r.length] using hi), List.getElem?_map, ev]
      rfl
  · rw [List.getElem?_append_right (by simpa using hi)] at e
    have := List.mem_of_getElem? e
    rw [List.mem_replicate] at this
    cases this.2
theorem RVs.append' {φ : Pl} {H : Hp} : ∀ {l m : List PV} {vs us : List V}, RVs K ca φ H l vs → RVs K ca φ H m us → RVs K ca φ H (l ++ m) (vs ++ us)
  | [], m, vs, us, r, q => by
    have e : vs = [] := r
    subst e
    exact q
  | d :: l, m, vs, us, r, q => by
    obtain ⟨v, ws, e, r1, r2⟩ := r
    subst e
    exact ⟨v, ws ++ us, rfl, r1, RVs.append' r2 q⟩
theorem RVs.drop' {φ : Pl} {H : Hp} : ∀ (n : Nat) {l : List PV} {vs : List V}, RVs K ca φ H l vs → RVs K ca φ H (l.drop n) (vs.drop n)
  | 0, l, vs, r => r
  | n + 1, [], vs, r => by
    have e : vs = [] := r
    subst e
    exact rfl
  | n + 1, d :: l, vs, r => by
    obtain ⟨v, ws, e, r1, r2⟩ := r
    subst e
    exact RVs.drop' n r2
/-- THE RULE of a def -/
theorem fn_ok (F : FunD K x qual params body scope dvs kws f fd) (S : FnScope N ps scope) (hb : BindsD K fd ps dvs) (hps : ps.length = d.ps) (hsl : N.length = d.sl) (hd : ∀ φ H, RVs K ca φ H d.dfl dvs)
    (hbody : ∀ (A : Around) (outer : List Env) (s : Shared) (H : Hp) (cd : Value), Cok (cxOf L2.CX0 P w K mg base N qual scope f cd A outer s H L2.E0) (2 * k + 1) →
      PassesOwn (model P w) (A.deeper (PyProof.Rows.envOfC qual scope s.heap.objs.size f cd)) (PyProof.Rows.envOfC qual scope s.heap.objs.size f cd) (cxOf L2.CX0 P w K mg base N qual scope f cd A outer s H L2.E0).xe → PSs (cxOf L2.CX0 P w K mg base N qual scope f cd A outer s H L2.E0) body (tDS K ca (d.body cf))) :
    FnG P w K mg base (2 * (k + 1)) f (spOf K ca (runS d cf)) := by
  intro A outer s H us vs Q hr hgd e0 r hsp
  obtain ⟨φ, h, xs, z, h', rxs, rh, e, q⟩ := hsp
  have hl : dvs.length = d.dfl.length := ((hd φ H).length).symm
  have hlx : xs.length = vs.length := rxs.length
  have hc : (xs ++ d.dfl.drop (d.dfl.length + xs.length - d.ps)).length = d.ps := by
    unfold runS at e
    simp only [] at e
    split at e
    · assumption
    · cases e
  have hsz : xs.length + (d.dfl.length - (d.dfl.length + xs.length - d.ps)) = d.ps := by
    rw [List.length_append, List.length_drop] at hc
    exact hc
  obtain ⟨ds, hds, hB⟩ := hb vs.length (by rw [hps]; omega) (by rw [hps]; omega)
  obtain ⟨oc, od, dV, kV, doc, pm, an, cdv, ct, osl, efd, lk, hcd, _, _⟩ := F.ex
  subst efd
  have er : d.dfl.length + xs.length - d.ps = dvs.length + vs.length - ps.length := by rw [hl, hlx, hps]
  have rall : RVs K ca φ H (xs ++ d.dfl.drop (d.dfl.length + xs.length - d.ps)) (vs ++ dvs.drop (dvs.length + vs.length - ps.length)) := by
    rw [er]
    exact RVs.append' rxs (RVs.drop' _ (hd φ H))
  have G := fnG_of (P := P) (w := w) (mg := mg) (base := base) (k := 2 * k + 1) (N := N) (sp := fun vs' H' Q' => vs' = vs ∧ H' = H ∧ Q' = Q) (dvs := dvs.drop (dvs.length + vs.length - ps.length)) (ds := ds) lk hcd S hB hds (fun vs' H' Q' hh => by
      obtain ⟨e1, _, _⟩ := hh
      subst e1
      rw [← rall.length, hc, hps]) (fun A' outer' s' H' vs' Q' hr' hg' hh => by
      obtain ⟨e1, e2, e3⟩ := hh
      subst e1 e2 e3
      refine ⟨_, hbody A' outer' s' H' cdv ⟨rfl, S.nd, hr', hg'⟩ (passes_of (X := cxOf L2.CX0 P w K mg base N qual scope f cdv A' outer' s' H' L2.E0) rfl), ?_⟩
      unfold runS at e
      simp only [] at e
      rw [if_pos hc] at e
      have rs := start_rs (n := d.sl - d.ps) rall
      cases eb : d.body cf ((xs ++ d.dfl.drop (d.dfl.length + xs.length - d.ps)).map some ++ List.replicate (d.sl - d.ps) none) h with
      | none => simp only [eb] at e; cases e
      | some o =>
        simp only [eb] at e
        refine ⟨φ, _, h, o, ?_, rh, eb, ?_⟩
        · unfold L2.start
          rw [hsl, ← rall.length, hc]
          exact rs
        · cases o with
          | rt v h1 =>
            intro u φ' H2 y rh1 rv
            obtain ⟨φ2, y2, rh2, rv2⟩ := gc_ok rh y rh1 rv (Option.some.inj e)
            exact q u φ2 H2 y2 rh2 rv2
          | nx s2 h1 =>
            intro σ' φ' H2 y rh1 _
            obtain ⟨φ2, y2, rh2, rv2⟩ := gc_ok rh y rh1 (show RV K ca φ' H2 .non .non from rfl) (Option.some.inj e)
            exact q .non φ2 H2 y2 rh2 rv2
          | bk _ _ => cases e
          | ct _ _ => cases e)
  exact G A outer s H us vs Q hr hgd e0 r ⟨rfl, rfl, rfl⟩
end
end Lt

set_option maxRecDepth 100000
namespace Lt
open PySem PySem.Spec L2
section
variable {X : Cx} {ca : CA} {k : Nat} {pos : Pos} {x : Str} {a b : Expr} {ma mb : XE}
theorem r_gint {i : Int} (h : ∃ t, X.mg x = some (.int i t)) (hg : Gl X x := by unfold Gl; kernel_rfl) (hd : (x == ("__debug__" : Str)) = false := by decide +kernel) : PE X (.Name x pos) (tD X.K ca (xC (.int i))) := by
  obtain ⟨t, h⟩ := h
  exact r_glob (v := .int i) hg h ⟨t, rfl⟩ (fun _ _ => rfl) hd
theorem r_gstr {t : Tx} (h : ∃ j, X.mg x = some (.str (sx t) j)) (z : t.length ≤ 4096 := by decide) (c : t.all (· < 0x110000) = true := by decide) (hg : Gl X x := by unfold Gl; kernel_rfl) (hd : (x == ("__debug__" : Str)) = false := by decide +kernel) : PE X (.Name x pos) (tD X.K ca (xC (.str t))) := by
  obtain ⟨j, h⟩ := h
  exact r_glob (v := .str (sx t)) hg h ⟨j, rfl⟩ (fun _ _ => ⟨rfl, Nat.le_trans z (by rw [sizeLine_eq]; decide), c⟩) hd
/-- a module's value of any kind -/
theorem r_gval {v : V} {u : Value} {d : PV} (h : X.mg x = some u) (hu : RelV v u) (r : ∀ φ H, RV X.K ca φ H d v) (hg : Gl X x := by unfold Gl; kernel_rfl) (hd : (x == ("__debug__" : Str)) = false := by decide +kernel) : PE X (.Name x pos) (tD X.K ca (xC d)) := r_glob hg h hu r hd
end
/-- the list that is read, let loose or at a place -/
def lsH (h : PH) : PV → Option (List PV)
  | .lst l => some l
  | .ref n => match h[n]? with
    | some (.lst l) => some l
    | _ => none
  | _ => none
def xAdd (al : Bool) (a b : XE) : XE := fun s h => bd (a s h) fun x h => bd (b s h) fun y h => ob (lsH h x) fun l => ob (lsH h y) fun m => if l.length + m.length ≤ sizeLine then newL al (l ++ m) h else none
section
variable {K : PySem.W.Frag} {ca : CA} {φ : Pl} {h : PH} {H : Hp}
theorem lsH_of {x : PV} {v : V} {l : List PV} (rh : RH K ca φ h H) (r : RV K ca φ H x v) (e : lsH h x = some l) : ∃ a vs, v = .ref a ∧ H a = some (.lst vs) ∧ RVs K ca φ H l vs := by
  cases x with
  | lst m =>
    cases e
    obtain ⟨a, vs, ev, f, _, rs⟩ := r
    exact ⟨a, vs, ev, f.1, rs⟩
  | ref n =>
    obtain ⟨p, ep, ev⟩ := r
    obtain ⟨o, eo, ro⟩ := rh.pl ep
    unfold lsH at e
    simp only [eo] at e
    cases o with
    | lst m =>
      cases e
      obtain ⟨_, vs, f, rs⟩ := ro
      exact ⟨p.1, vs, ev, f, rs⟩
    | _ => cases e
  | _ => cases e
end
section
variable {X : Cx} {ca : CA} {k : Nat} {pos : Pos} {a b : Expr} {ma mb : XE} {al : Bool}
theorem r_add (ha : PE X a (tD X.K ca ma)) (hb : PE X b (tD X.K ca mb)) : PE X (.BinOp a .Add b pos) (tD X.K ca (xAdd al ma mb)) := by
  refine wkE (pe_op op_cat ha hb) fun σ H Q q => ?_
  obtain ⟨φ, s, h, z, h', rs, rh, e, q⟩ := q
  obtain ⟨x, h1, e1, e⟩ := bd_eq e
  obtain ⟨y, h2, e2, e⟩ := bd_eq e
  obtain ⟨l, e3, e⟩ := ob_eq e
  obtain ⟨m, e4, e⟩ := ob_eq e
  have e5 : (if l.length + m.length ≤ sizeLine then newL al (l ++ m) h2 else none) = some (z, h') := e
  split at e5
  · rename_i hz
    refine ⟨φ, s, h, x, h1, rs, rh, e1, fun v φ1 H1 y1 rh1 r1 => ⟨φ1, s, h1, y, h2, rs.ext y1.toExt0, rh1, e2, fun u φ2 H2 y2 rh2 r2 => ?_⟩⟩
    obtain ⟨a1, vs, ev, f1, rs1⟩ := lsH_of rh2 (RV.ext y2.toExt0 _ _ r1) e3
    obtain ⟨a2, us, eu, f2, rs2⟩ := lsH_of rh2 r2 e4
    have l1 := rs1.length
    have l2 := rs2.length
    refine ⟨a1, a2, vs, us, ev, eu, f1, f2, by omega, fun p hp => ?_⟩
    exact new_L rh2 (rs1.append rs2) (by rw [List.length_append]; exact hz) e5 (fun v φ3 H3 y3 rh3 r3 => q v φ3 H3 ((y1.trans y2).trans y3) rh3 r3) p hp
  · cases e5
def xD0 (al : Bool) : XE := fun _ h => newD al [] [] h
theorem r_d0 : PE X (.Dict [] [] pos) (tD X.K ca (xD0 al)) := by
  refine wkE pe_dnewK fun σ H Q q => ?_
  obtain ⟨φ, s, h, z, h', rs, rh, e, q⟩ := q
  exact fun p hp => new_dct (ks := []) (l := []) (vs := []) rh rfl rfl e q p hp
end
end Lt

set_option maxRecDepth 100000
namespace Lt
open PySem
/-- a def's end -/
def fin (frz : Bool) (n : Nat) : Option Out → M PV
  | some (.rt v h) => some (gc frz n v h)
  | some (.nx _ h) => some (gc frz n .non h)
  | _ => none
theorem fin_rt {frz : Bool} {v : PV} {h : PH} : fin frz h.length (some (.rt v h)) = some (v, h) := by
  show some (gc frz h.length v h) = _
  unfold gc
  rw [if_pos rfl]
theorem fin_nx {frz : Bool} {s : Sl} {h : PH} : fin frz h.length (some (.nx s h)) = some (.non, h) := by
  show some (gc frz h.length .non h) = _
  unfold gc
  rw [if_pos rfl]
end Lt

set_option maxRecDepth 100000
namespace Lt
open PySem
/-- it ends, and well -/
def Ev {α : Type} (m : Option α) (Q : α → Prop) : Prop := ∃ x, m = some x ∧ Q x
section
variable {α β γ : Type} {m : M α} {f : α → PH → Option β} {Q : β → Prop} {P : α × PH → Prop}
theorem Ev.bd (a : Ev m P) (b : ∀ v h, P (v, h) → Ev (f v h) Q) : Ev (bd m f) Q := by
  obtain ⟨⟨v, h⟩, e, p⟩ := a
  rw [e]
  exact b v h p
theorem Ev.imp {m : Option β} {R : β → Prop} (a : Ev m R) (b : ∀ x, R x → Q x) : Ev m Q := by
  obtain ⟨x, e, p⟩ := a
  exact ⟨x, e, b x p⟩
@[simp] theorem Ev_some {x : β} : Ev (some x) Q ↔ Q x := by
  constructor
  · rintro ⟨y, e, q⟩
    cases e
    exact q
  · exact fun q => ⟨x, rfl, q⟩
@[simp] theorem Ev_none : Ev (none : Option β) Q ↔ False := by
  constructor
  · rintro ⟨y, e, q⟩
    cases e
  · exact False.elim
theorem Ev_congr {m m' : Option β} (e : m = m') : Ev m Q = Ev m' Q := by rw [e]
@[simp] theorem bd_bd {g : β → PH → Option γ} {f : α → PH → M β} : Lt.bd (Lt.bd m f) g = Lt.bd m fun v h => Lt.bd (f v h) g := by cases m <;> rfl
@[simp] theorem ob_bd {g : β → Option γ} : ob (Lt.bd m f) g = Lt.bd m fun v h => ob (f v h) g := by cases m <;> rfl
@[simp] theorem nxt_bd {f : α → PH → Option Out} {g : Sl → PH → Option Out} : nxt (Lt.bd m f) g = Lt.bd m fun v h => nxt (f v h) g := by cases m <;> rfl
@[simp] theorem nxt_nxt {o : Option Out} {f g : Sl → PH → Option Out} : nxt (nxt o f) g = nxt o fun s h => nxt (f s h) g := by
  cases o with
  | none => rfl
  | some o => cases o <;> rfl
@[simp] theorem fin_bd {b : Bool} {n : Nat} {f : α → PH → Option Out} : fin b n (Lt.bd m f) = Lt.bd m fun v h => fin b n (f v h) := by cases m <;> rfl
@[simp] theorem bd_ib {b : Bool} {x y : M α} : Lt.bd (ib b x y) f = ib b (Lt.bd x f) (Lt.bd y f) := by cases b <;> rfl
@[simp] theorem nxt_ib {b : Bool} {x y : Option Out} {f : Sl → PH → Option Out} : nxt (ib b x y) f = ib b (nxt x f) (nxt y f) := by cases b <;> rfl
@[simp] theorem fin_ib {b c : Bool} {n : Nat} {x y : Option Out} : fin c n (ib b x y) = ib b (fin c n x) (fin c n y) := by cases b <;> rfl
theorem Ev_ib {b : Bool} {x y : Option β} : Ev (ib b x y) Q ↔ (b = true → Ev x Q) ∧ (b = false → Ev y Q) := by cases b <;> simp
end
theorem fin_rt' {frz : Bool} {v : PV} {h : PH} {n : Nat} (e : h.length = n) : fin frz n (some (.rt v h)) = some (v, h) := e ▸ fin_rt
theorem fin_nx' {frz : Bool} {s : Sl} {h : PH} {n : Nat} (e : h.length = n) : fin frz n (some (.nx s h)) = some (.non, h) := e ▸ fin_nx
def kd0 : PV → String
  | .non => "NoneType"
  | .bl _ => "bool"
  | .int _ => "int"
  | .str _ => "str"
  | .tup _ => "tuple"
  | .lst _ => "list"
  | _ => "dict"
def Pln (x : PV) : Prop := ∃ d, x.rp = some d
theorem Pln.kd {x : PV} {h : PH} (p : Pln x) : kdV h x = some (kd0 x) := by
  obtain ⟨d, e⟩ := p
  cases x <;> first | rfl | cases e
def isTup : PV → Bool
  | .tup _ => true
  | _ => false
def isStr : PV → Bool
  | .str _ => true
  | _ => false
def isInt : PV → Bool
  | .int _ => true
  | .bl _ => true
  | _ => false
def isBl : PV → Bool
  | .bl _ => true
  | _ => false
def isLst : PV → Bool
  | .lst _ => true
  | _ => false
@[simp] theorem isi_tup {x : PV} : isiB (kd0 x) "tuple" = isTup x := by cases x <;> rfl
@[simp] theorem isi_str {x : PV} : isiB (kd0 x) "str" = isStr x := by cases x <;> rfl
@[simp] theorem isi_int {x : PV} : isiB (kd0 x) "int" = isInt x := by cases x <;> rfl
@[simp] theorem isi_bool {x : PV} : isiB (kd0 x) "bool" = isBl x := by cases x <;> rfl
@[simp] theorem isi_list {x : PV} : isiB (kd0 x) "list" = isLst x := by cases x <;> rfl
theorem rps_some : ∀ {l : List PV} {ds : List PyData}, PV.rps l = some ds → ∀ x ∈ l, ∃ d ∈ ds, x.rp = some d
  | [], _, _, _, h => by cases h
  | y :: l, ds, e, x, h => by
    cases e1 : y.rp with
    | none => simp [PV.rps, e1] at e
    | some d =>
      cases e2 : PV.rps l with
      | none => simp [PV.rps, e1, e2] at e
      | some r =>
        simp only [PV.rps, e1, e2] at e
        cases e
        rcases List.mem_cons.mp h with h | h
        · exact ⟨d, List.mem_cons_self, h ▸ e1⟩
        · obtain ⟨d', h1, h2⟩ := rps_some e2 x h
          exact ⟨d', List.mem_cons_of_mem _ h1, h2⟩
theorem Pln.tup {l : List PV} (p : Pln (.tup l)) : ∀ x ∈ l, Pln x := by
  obtain ⟨d, e⟩ := p
  have e' : (PV.rps l).map PyData.tuple = some d := by simpa only [PV.rp] using e
  cases e1 : PV.rps l with
  | none => rw [e1] at e'; cases e'
  | some ds => exact fun x h => (rps_some e1 x h).imp fun d h => h.2
theorem Pln.lst {l : List PV} (p : Pln (.lst l)) : ∀ x ∈ l, Pln x := by
  obtain ⟨d, e⟩ := p
  have e' : (PV.rps l).map PyData.list = some d := by simpa only [PV.rp] using e
  cases e1 : PV.rps l with
  | none => rw [e1] at e'; cases e'
  | some ds => exact fun x h => (rps_some e1 x h).imp fun d h => h.2
theorem rps_of : ∀ {l : List PV}, (∀ x ∈ l, Pln x) → ∃ ds, PV.rps l = some ds
  | [], _ => ⟨[], rfl⟩
  | y :: l, h => by
    obtain ⟨d, e⟩ := h y List.mem_cons_self
    obtain ⟨ds, e2⟩ := rps_of (l := l) fun x hx => h x (List.mem_cons_of_mem _ hx)
    exact ⟨d :: ds, by simp only [PV.rps, e, e2]⟩
theorem pln_tup {l : List PV} (h : ∀ x ∈ l, Pln x) : Pln (.tup l) := by
  obtain ⟨ds, e⟩ := rps_of h
  exact ⟨.tuple ds, by simp only [PV.rp, e, Option.map]⟩
theorem pln_lst {l : List PV} (h : ∀ x ∈ l, Pln x) : Pln (.lst l) := by
  obtain ⟨ds, e⟩ := rps_of h
  exact ⟨.list ds, by simp only [PV.rp, e, Option.map]⟩
end Lt

set_option maxRecDepth 100000
namespace Lt
open PySem
@[simp] theorem eqV_str {x y : Tx} : eqV (.str x) (.str y) = some (decide (x = y)) := by
  show (if PyData.depth (.str (sx x)) ≤ 64 ∧ PyData.depth (.str (sx y)) ≤ 64 then some (PyData.eqv (.str (sx x)) (.str (sx y))) else none) = _
  have h : ∀ z : Tx, PyData.depth (.str (sx z)) ≤ 64 := fun z => by simp only [PyData.depth]; omega
  rw [if_pos ⟨h x, h y⟩]
  simp only [PyData.eqv]
  congr 1
  by_cases e : x = y
  · subst e; simp
  · simp only [e, decide_false, beq_eq_false_iff_ne, ne_eq]
    exact fun h => e (sx_inj.mp h)
@[simp] theorem eqV_int {x y : Int} : eqV (.int x) (.int y) = some (decide (x = y)) := by
  show (if PyData.depth (.int x) ≤ 64 ∧ PyData.depth (.int y) ≤ 64 then some (PyData.eqv (.int x) (.int y)) else none) = _
  have h : ∀ z : Int, PyData.depth (.int z) ≤ 64 := fun z => by simp only [PyData.depth]; omega
  rw [if_pos ⟨h x, h y⟩]
  simp only [PyData.eqv]
  congr 1
@[simp] theorem eqV_tup0 {l : List PV} : eqV (.tup l) (.tup []) = some l.isEmpty := by cases l <;> rfl
@[simp] theorem eqV_lst0 {l : List PV} : eqV (.lst l) (.lst []) = some l.isEmpty := by cases l <;> rfl
theorem pys_map {α : Type} {f : α → PV} {g : α → PyData} (h : ∀ x, (f x).py = some (g x)) : ∀ l : List α, PV.pys (l.map f) = some (l.map g)
  | [] => rfl
  | x :: l => by simp only [List.map_cons, PV.pys, h x, pys_map h l]
theorem any_sx {x : Tx} : ∀ l : List Tx, ((l.map fun y => PyData.str (sx y)).any fun z => PyData.eqv z (.str (sx x))) = decide (x ∈ l)
  | [] => rfl
  | y :: l => by
    rw [List.map_cons, List.any_cons, any_sx l]
    simp only [PyData.eqv, List.mem_cons, Bool.decide_or]
    congr 1
    by_cases e : x = y
    · subst e; simp
    · rw [decide_eq_false e, beq_eq_false_iff_ne]
      exact fun h => e (sx_inj.mp h).symm
@[simp] theorem anyEq_str {x : Tx} {l : List Tx} : anyEq (.str x) (l.map .str) = some (decide (x ∈ l)) := by
  unfold anyEq
  rw [pys_map (g := fun y => PyData.str (sx y)) (fun y => rfl) l]
  show (if PyData.depth (.str (sx x)) ≤ 64 then _ else none) = _
  rw [if_pos (by simp only [PyData.depth]; omega)]
  exact congrArg some (any_sx l)
theorem any_int {x : Int} : ∀ l : List Int, ((l.map fun y => PyData.int y).any fun z => PyData.eqv z (.int x)) = decide (x ∈ l)
  | [] => rfl
  | y :: l => by
    rw [List.map_cons, List.any_cons, any_int l]
    simp only [PyData.eqv, List.mem_cons, Bool.decide_or]
    congr 1
    by_cases e : x = y
    · subst e; simp
    · rw [decide_eq_false e, beq_eq_false_iff_ne]
      exact fun h => e h.symm
@[simp] theorem anyEq_int {x : Int} {l : List Int} : anyEq (.int x) (l.map .int) = some (decide (x ∈ l)) := by
  unfold anyEq
  rw [pys_map (g := fun y => PyData.int y) (fun y => rfl) l]
  show (if PyData.depth (.int x) ≤ 64 then _ else none) = _
  rw [if_pos (by simp only [PyData.depth]; omega)]
  exact congrArg some (any_int l)
theorem anyEq_strs {x : Tx} {l : List PV} (m : List Tx) (e : l = m.map .str) : anyEq (.str x) l = some (decide (x ∈ m)) := e ▸ anyEq_str
theorem anyEq_ints {x : Int} {l : List PV} (m : List Int) (e : l = m.map .int) : anyEq (.int x) l = some (decide (x ∈ m)) := e ▸ anyEq_int
/-- a tuple of a size that begins with a word -/
def hd (w : Tx) (n : Nat) : PV → Bool
  | .tup l => l.length == n && (match l with
    | .str x :: _ => decide (x = w)
    | _ => false)
  | _ => false
def items : PV → List PV
  | .tup l => l
  | .lst l => l
  | _ => []
def arg (i : Nat) (x : PV) : PV := (items x).getD i .non
def strOf : PV → Tx
  | .str x => x
  | _ => []
theorem strs_of {l : List PV} (h : ∀ x ∈ l, isStr x = true) : l = (l.map strOf).map .str := by
  induction l with
  | nil => rfl
  | cons x l ih =>
    have h1 := h x List.mem_cons_self
    cases x <;> first | cases h1 | skip
    rw [List.map_cons, List.map_cons, ← ih fun y hy => h y (List.mem_cons_of_mem _ hy)]
    rfl
theorem strsV_map : ∀ l : List Tx, strsV (l.map .str) = some l
  | [] => rfl
  | x :: l => by simp only [List.map_cons, strsV, strsV_map l, Option.map]
theorem boolsV_map : ∀ l : List Bool, boolsV (l.map .bl) = some l
  | [] => rfl
  | x :: l => by simp only [List.map_cons, boolsV, boolsV_map l, Option.map]
theorem intsV_map : ∀ l : List Int, intsV (l.map .int) = some l
  | [] => rfl
  | x :: l => by simp only [List.map_cons, intsV, intsV_map l, Option.map]
theorem all_map {α : Type} (p : α → Bool) (l : List α) (h : PH) : biV .all [.lst (l.map fun x => .bl (p x))] h = some (.bl (l.all p), h) := by
  show (boolsV (l.map fun x => PV.bl (p x))).map _ = _
  rw [show (l.map fun x => PV.bl (p x)) = (l.map p).map .bl from by rw [List.map_map]; rfl, boolsV_map]
  simp [List.all_map]
theorem lcL_pure {tg : Tg} {test : Sl → PH → M Bool} {elt : Sl → PH → M PV} {s : Sl} {h : PH} (p : PV → Bool) (f : PV → PV) : ∀ xs : List PV,
    (∀ x ∈ xs, ∃ s1, asg tg x s = some s1 ∧ test s1 h = some (p x, h) ∧ (p x = true → elt s1 h = some (f x, h))) → lcL tg test elt s xs h = some ((xs.filter p).map f, h)
  | [], _ => rfl
  | x :: xs, H => by
    obtain ⟨s1, e1, e2, e3⟩ := H x List.mem_cons_self
    have ih := lcL_pure p f xs fun y hy => H y (List.mem_cons_of_mem _ hy)
    unfold lcL
    simp only [e1, e2]
    cases hp : p x with
    | false => simp only [ih, List.filter_cons, hp]; rfl
    | true => simp only [e3 hp, ih, List.filter_cons, hp, if_true, List.map_cons]
/-- .. over all items -/
theorem lcL_map {tg : Tg} {elt : Sl → PH → M PV} {s : Sl} {h : PH} (f : PV → PV) (xs : List PV)
    (H : ∀ x ∈ xs, ∃ s1, asg tg x s = some s1 ∧ elt s1 h = some (f x, h)) : lcL tg tYe elt s xs h = some (xs.map f, h) := by
  have := lcL_pure (tg := tg) (test := tYe) (elt := elt) (s := s) (h := h) (fun _ => true) f xs fun x hx => let ⟨s1, e1, e2⟩ := H x hx; ⟨s1, e1, rfl, fun _ => e2⟩
  rwa [List.filter_eq_self.mpr (fun _ _ => rfl)] at this
/-- with an invariant of the places -/
theorem lcL_inv {tg : Tg} {test : Sl → PH → M Bool} {elt : Sl → PH → M PV} {s : Sl} (I : PH → Prop) (P : PV → Prop) : ∀ (xs : List PV) (h : PH), I h →
    (∀ x ∈ xs, ∃ s1, asg tg x s = some s1 ∧ ∀ h, I h → Ev (test s1 h) fun r => I r.2 ∧ (r.1 = true → Ev (elt s1 r.2) fun q => P q.1 ∧ I q.2)) →
    Ev (lcL tg test elt s xs h) fun r => (∀ y ∈ r.1, P y) ∧ r.1.length ≤ xs.length ∧ I r.2
  | [], h, i, _ => ⟨_, rfl, by simp, by simp, i⟩
  | x :: xs, h, i, H => by
    obtain ⟨s1, e1, H1⟩ := H x List.mem_cons_self
    obtain ⟨⟨b, h1⟩, e2, i1, H2⟩ := H1 h i
    unfold lcL
    simp only [e1, e2]
    cases b with
    | false =>
      obtain ⟨r, e3, p3, l3, i3⟩ := lcL_inv I P xs h1 i1 fun y hy => H y (List.mem_cons_of_mem _ hy)
      exact ⟨r, e3, p3, by rw [List.length_cons]; omega, i3⟩
    | true =>
      obtain ⟨⟨y, h2⟩, e4, p4, i4⟩ := H2 rfl
      obtain ⟨⟨ys, h3⟩, e3, p3, l3, i3⟩ := lcL_inv I P xs h2 i4 fun y hy => H y (List.mem_cons_of_mem _ hy)
      simp only [e4, e3]
      refine ⟨_, rfl, fun z hz => ?_, by rw [List.length_cons, List.length_cons]; exact Nat.succ_le_succ l3, i3⟩
      rcases List.mem_cons.mp hz with hz | hz
      · exact hz ▸ p4
      · exact p3 z hz
inductive All2 {α β : Type} (P : α → β → Prop) : List α → List β → Prop where
  | nil : All2 P [] []
  | cons {x : α} {y : β} {l : List α} {m : List β} : P x y → All2 P l m → All2 P (x :: l) (y :: m)
theorem lcL_invA {tg : Tg} {elt : Sl → PH → M PV} {s : Sl} (I : PH → Prop) (P : PV → PV → Prop) : ∀ (xs : List PV) (h : PH), I h →
    (∀ x ∈ xs, ∃ s1, asg tg x s = some s1 ∧ ∀ h, I h → Ev (elt s1 h) fun q => P x q.1 ∧ I q.2) →
    Ev (lcL tg tYe elt s xs h) fun r => All2 P xs r.1 ∧ I r.2
  | [], h, i, _ => ⟨_, rfl, .nil, i⟩
  | x :: xs, h, i, H => by
    obtain ⟨s1, e1, H1⟩ := H x List.mem_cons_self
    obtain ⟨⟨y, h2⟩, e4, p4, i4⟩ := H1 h i
    obtain ⟨⟨ys, h3⟩, e3, p3, i3⟩ := lcL_invA I P xs h2 i4 fun y hy => H y (List.mem_cons_of_mem _ hy)
    unfold lcL
    simp only [e1, tYe, e4, e3]
    exact ⟨_, rfl, .cons p4 p3, i3⟩
theorem forL_inv {tg : Tg} {body : Sl → PH → Option Out} (I : List PV → Sl → PH → Prop) (R : PV → PH → Prop) (B : Sl → PH → Prop) : ∀ (xs : List PV) (s : Sl) (h : PH), I xs s h →
    (∀ x r s h, x ∈ xs → I (x :: r) s h → ∃ s1, asg tg x s = some s1 ∧ Ev (body s1 h) fun o => match o with
      | .nx s h => I r s h
      | .ct s h => I r s h
      | .bk s h => B s h
      | .rt v h => R v h) →
    Ev (forL tg body xs s h) fun o => match o with
      | .nx s h => I [] s h ∨ B s h
      | .rt v h => R v h
      | _ => False
  | [], s, h, i, _ => ⟨_, rfl, .inl i⟩
  | x :: xs, s, h, i, H => by
    obtain ⟨s1, e1, o, e2, p⟩ := H x xs s h List.mem_cons_self i
    unfold forL
    simp only [e1, e2]
    cases o with
    | nx s2 h2 => exact forL_inv I R B xs s2 h2 p fun y r s h hy => H y r s h (List.mem_cons_of_mem _ hy)
    | ct s2 h2 => exact forL_inv I R B xs s2 h2 p fun y r s h hy => H y r s h (List.mem_cons_of_mem _ hy)
    | bk s2 h2 => exact ⟨_, rfl, .inr p⟩
    | rt v h2 => exact ⟨_, rfl, p⟩
theorem mem_rngL : ∀ (n : Nat) (i : Int) (x : PV), x ∈ rngL i n → ∃ j, x = .int j ∧ i ≤ j ∧ j < i + n
  | 0, _, _, h => by cases h
  | n + 1, i, x, h => by
    rcases List.mem_cons.mp h with h | h
    · exact ⟨i, h, by omega, by omega⟩
    · obtain ⟨j, e, h1, h2⟩ := mem_rngL n (i + 1) x h
      exact ⟨j, e, by omega, by omega⟩
/-- for over a range -/
theorem forR_inv {j : Nat} {body : Sl → PH → Option Out} (n : Nat) (I : Nat → Sl → PH → Prop) (R : PV → PH → Prop) {s : Sl} {h : PH} (i0 : I 0 s h)
    (H : ∀ i s h, i < n → I i s h → Ev (body (s.set j (some (.int i))) h) fun o => match o with
      | .nx s h => I (i + 1) s h
      | .ct s h => I (i + 1) s h
      | .bk _ _ => False
      | .rt v h => R v h) :
    Ev (forL (.name j) body (rngL 0 n) s h) fun o => match o with
      | .nx s h => I n s h
      | .rt v h => R v h
      | _ => False := by
  have go : ∀ (m : Nat) (i : Nat) (s : Sl) (h : PH), i + m = n → I i s h → Ev (forL (.name j) body (rngL i m) s h) fun o => match o with
      | .nx s h => I n s h
      | .rt v h => R v h
      | _ => False := by
    intro m
    induction m with
    | zero =>
      intro i s h e hi
      have : i = n := by omega
      exact ⟨_, rfl, this ▸ hi⟩
    | succ m ih =>
      intro i s h e hi
      obtain ⟨o, e2, p⟩ := H i s h (by omega) hi
      show Ev (forL (.name j) body (.int i :: rngL (i + 1) m) s h) _
      unfold forL
      simp only [asg, e2]
      have e' : ((i : Int) + 1) = ((i + 1 : Nat) : Int) := by omega
      cases o with
      | nx s2 h2 => rw [e']; exact ih (i + 1) s2 h2 (by omega) p
      | ct s2 h2 => rw [e']; exact ih (i + 1) s2 h2 (by omega) p
      | bk s2 h2 => exact p.elim
      | rt v h2 => exact ⟨_, rfl, p⟩
  exact go n 0 s h (by omega) i0
section
variable {j N n : Nat} {frz : Bool} {body f : Sl → PH → Option Out} {s : Sl} {h : PH} {tg : Tg} {xs : List PV}
theorem Ev.fnR {Q : PV × PH → Prop} (I : Nat → Sl → PH → Prop) (i0 : I 0 s h)
    (H : ∀ i s h, i < n → I i s h → Ev (body (s.set j (some (.int i))) h) fun o => match o with
      | .nx s h => I (i + 1) s h
      | .ct s h => I (i + 1) s h
      | .bk _ _ => False
      | .rt v h => Ev (fin frz N (some (.rt v h))) Q)
    (b : ∀ s h, I n s h → Ev (fin frz N (f s h)) Q) : Ev (fin frz N (nxt (forL (.name j) body (rngL 0 n) s h) f)) Q := by
  obtain ⟨o, e, p⟩ := forR_inv n I (fun v h => Ev (fin frz N (some (.rt v h))) Q) i0 H
  rw [e]
  cases o with
  | nx s h => exact b s h p
  | rt v h => exact p
  | bk s h => exact p.elim
  | ct s h => exact p.elim
theorem Ev.nR {Q : Out → Prop} (I : Nat → Sl → PH → Prop) (i0 : I 0 s h)
    (H : ∀ i s h, i < n → I i s h → Ev (body (s.set j (some (.int i))) h) fun o => match o with
      | .nx s h => I (i + 1) s h
      | .ct s h => I (i + 1) s h
      | .bk _ _ => False
      | .rt v h => Q (.rt v h))
    (b : ∀ s h, I n s h → Ev (f s h) Q) : Ev (nxt (forL (.name j) body (rngL 0 n) s h) f) Q := by
  obtain ⟨o, e, p⟩ := forR_inv n I (fun v h => Q (.rt v h)) i0 H
  rw [e]
  cases o with
  | nx s h => exact b s h p
  | rt v h => exact ⟨_, rfl, p⟩
  | bk s h => exact p.elim
  | ct s h => exact p.elim
theorem Ev.fnL {Q : PV × PH → Prop} (I : List PV → Sl → PH → Prop) (i0 : I xs s h)
    (H : ∀ x r s h, x ∈ xs → I (x :: r) s h → ∃ s1, asg tg x s = some s1 ∧ Ev (body s1 h) fun o => match o with
      | .nx s h => I r s h
      | .ct s h => I r s h
      | .bk s h => Ev (fin frz N (f s h)) Q
      | .rt v h => Ev (fin frz N (some (.rt v h))) Q)
    (b : ∀ s h, I [] s h → Ev (fin frz N (f s h)) Q) : Ev (fin frz N (nxt (forL tg body xs s h) f)) Q := by
  obtain ⟨o, e, p⟩ := forL_inv I (fun v h => Ev (fin frz N (some (.rt v h))) Q) (fun s h => Ev (fin frz N (f s h)) Q) xs s h i0 H
  rw [e]
  cases o with
  | nx s h => exact p.elim (b s h) id
  | rt v h => exact p
  | bk s h => exact p.elim
  | ct s h => exact p.elim
theorem Ev.nL {Q : Out → Prop} (I : List PV → Sl → PH → Prop) (i0 : I xs s h)
    (H : ∀ x r s h, x ∈ xs → I (x :: r) s h → ∃ s1, asg tg x s = some s1 ∧ Ev (body s1 h) fun o => match o with
      | .nx s h => I r s h
      | .ct s h => I r s h
      | .bk s h => Ev (f s h) Q
      | .rt v h => Q (.rt v h))
    (b : ∀ s h, I [] s h → Ev (f s h) Q) : Ev (nxt (forL tg body xs s h) f) Q := by
  obtain ⟨o, e, p⟩ := forL_inv I (fun v h => Q (.rt v h)) (fun s h => Ev (f s h) Q) xs s h i0 H
  rw [e]
  cases o with
  | nx s h => exact p.elim (b s h) id
  | rt v h => exact ⟨_, rfl, p⟩
  | bk s h => exact p.elim
  | ct s h => exact p.elim
end
/-- what is closed may be cut -/
theorem gc_cut {frz : Bool} {v w : PV} {h g : PH} {n : Nat} (e : (h ++ g).length ≠ n) (l : h.length = n) (c : h.all (PO.cl n) = true)
    (d : v.cl n = true ∧ w = v ∨ ∃ m, v = .ref m ∧ frz = true ∧ n ≤ m ∧ v.cl n = false ∧ ((∃ l, (h ++ g)[m]? = some (.lst l) ∧ PV.cls n l = true ∧ w = .lst l) ∨ ∃ ks l, (h ++ g)[m]? = some (.dct ks l) ∧ PV.cls n l = true ∧ w = .dct ks l)) :
    gc frz n v (h ++ g) = (w, h) := by
  have t : (h ++ g).take n = h := by rw [← l, List.take_left']; rfl
  unfold gc
  rw [if_neg e, t, if_pos c]
  rcases d with ⟨d, rfl⟩ | ⟨m, rfl, f, z, nc, d⟩
  · rw [if_pos d]
  · rw [if_neg (by simp [nc])]
    show (if frz = true ∧ n ≤ m then _ else _) = _
    rw [if_pos ⟨f, z⟩]
    rcases d with ⟨l, e, c, rfl⟩ | ⟨ks, l, e, c, rfl⟩
    · rw [e]
      show (if PV.cls n l = true then _ else _) = _
      rw [if_pos c]
    · rw [e]
      show (if PV.cls n l = true then _ else _) = _
      rw [if_pos c]
end Lt

set_option maxRecDepth 100000
namespace Lt
open PySem
section
variable {s : Sl} {h : PH} {i j l c : Nat} {a b d lo hi o e : XE} {k : Bool} {t u : XT} {as : XA} {cf : XC} {m : XM} {p q : XS} {v w : PV} {tg : Tg}
@[simp] theorem ap_xV : xV i s h = (match s[i]? with | some (some v) => some (v, h) | _ => none) := rfl
@[simp] theorem ap_xC : xC v s h = some (v, h) := rfl
@[simp] theorem ap_xOp {o : Op2} : xOp o a b s h = (bd (a s h) fun x h => bd (b s h) fun y h => ob (opV o x y) fun v => some (v, h)) := rfl
@[simp] theorem ap_xCmp {o : Cmp} : xCmp o a b s h = (bd (a s h) fun x h => bd (b s h) fun y h => ob (cmpV o x y h) fun v => some (.bl v, h)) := rfl
@[simp] theorem ap_xChain {o p : Cmp} : xChain o p a b d s h = (bd (a s h) fun x h => bd (b s h) fun y h => ob (cmpV o x y h) fun v =>
  ib v (bd (d s h) fun z h => ob (cmpV p y z h) fun v => some (.bl v, h)) (some (.bl false, h))) := rfl
@[simp] theorem ap_xNot : xNot a s h = (bd (a s h) fun x h => ob (truthV h x) fun t => some (.bl (!t), h)) := rfl
def negV (x : PV) (h : PH) : M PV := match x with
  | .int i => some (.int (-i), h)
  | _ => none
@[simp] theorem negV_int {i : Int} : negV (.int i) h = some (.int (-i), h) := rfl
@[simp] theorem ap_xNeg : xNeg a s h = (bd (a s h) fun x h => negV x h) := rfl
@[simp] theorem ap_xIf : xIf t a b s h = (bd (t s h) fun v h => ib v (a s h) (b s h)) := rfl
@[simp] theorem ap_xBo : xBo k a b s h = (bd (a s h) fun x h => ob (truthV h x) fun t => ib (t == k) (b s h) (some (x, h))) := rfl
@[simp] theorem ap_xIx : xIx a b s h = (bd (a s h) fun x h => bd (b s h) fun y h => ob (ixV h x y) fun v => some (v, h)) := rfl
@[simp] theorem ap_xSl {n1 n2 : Bool} : xSl n1 n2 a lo hi s h = (bd (a s h) fun x h => bd (lo s h) fun y h => ob (partV n1 y) fun y => bd (hi s h) fun z h => ob (partV n2 z) fun z => ob (slV x y z) fun v => some (v, h)) := rfl
@[simp] theorem ap_aN : aN s h = some ([], h) := rfl
@[simp] theorem ap_aC : aC a as s h = (bd (a s h) fun x h => bd (as s h) fun vs h => some (x :: vs, h)) := rfl
@[simp] theorem ap_aS : aS a as s h = (bd (a s h) fun x h => ob (seqV x) fun xs => bd (as s h) fun vs h => some (xs ++ vs, h)) := rfl
def tupV (vs : List PV) (h : PH) : M PV := if vs.length ≤ sizeLine then some (.tup vs, h) else none
def lstV (al : Bool) (vs : List PV) (h : PH) : M PV := if vs.length ≤ sizeLine then newL al vs h else none
@[simp] theorem ap_xTup : xTup as s h = (bd (as s h) fun vs h => tupV vs h) := rfl
@[simp] theorem ap_xLst {al : Bool} : xLst al as s h = (bd (as s h) fun vs h => lstV al vs h) := rfl
@[simp] theorem tupV_ok {vs : List PV} (z : vs.length ≤ 4096) : tupV vs h = some (.tup vs, h) := if_pos (Nat.le_trans z (by decide))
@[simp] theorem lstV_ok {vs : List PV} (z : vs.length ≤ 4096) : lstV false vs h = some (.lst vs, h) := by
  show (if vs.length ≤ sizeLine then newL false vs h else none) = _
  rw [if_pos (Nat.le_trans z (by decide))]
  rfl
theorem lstV_al {vs : List PV} (z : vs.length ≤ 4096) : lstV true vs h = some (.ref h.length, h ++ [.lst vs]) := by
  show (if vs.length ≤ sizeLine then newL true vs h else none) = _
  rw [if_pos (Nat.le_trans z (by decide))]
  rfl
@[simp] theorem newL_f {vs : List PV} : newL false vs h = some (.lst vs, h) := rfl
@[simp] theorem newL_t {vs : List PV} : newL true vs h = some (.ref h.length, h ++ [.lst vs]) := rfl
@[simp] theorem newD_f {ks : List DK} {vs : List PV} : newD false ks vs h = some (.dct ks vs, h) := rfl
@[simp] theorem ap_xCall : xCall cf as s h = (bd (as s h) fun vs h => cf vs h) := rfl
@[simp] theorem ap_xWk : xWk a s h = (bd (a s h) fun x h => some (wkV x, h)) := rfl
@[simp] theorem ap_xIsi {t : String} : xIsi t a s h = (bd (a s h) fun x h => ob (kdV h x) fun k => some (.bl (isiB k t), h)) := rfl
def isOV (c : Nat) (x : PV) (h : PH) : M PV := if clsV x h = some c then some (.bl true, h) else none
@[simp] theorem isOV_obj {vs : List PV} : isOV c (.obj c vs) h = some (.bl true, h) := by simp [isOV, clsV]
@[simp] theorem ap_xIsO : xIsO c a s h = (bd (a s h) fun x h => isOV c x h) := rfl
def fldO (c i : Nat) (x : PV) (h : PH) : M PV := if clsV x h = some c then ob (slotV i x h) fun v => some (v, h) else none
@[simp] theorem fldO_obj {vs : List PV} : fldO c i (.obj c vs) h = ob (vs[i]?) fun v => some (v, h) := by simp [fldO, clsV, slotV]
@[simp] theorem ap_xFld : xFld c i a s h = (bd (a s h) fun x h => fldO c i x h) := rfl
def methO (c : Nat) (f : XC) (x : PV) (m : M (List PV)) (h : PH) : M PV := if clsV x h = some c then bd m fun vs h => f (x :: vs) h else none
@[simp] theorem methO_obj {vs : List PV} {m : M (List PV)} : methO c cf (.obj c vs) m h = bd m fun us h => cf (.obj c vs :: us) h := by simp [methO, clsV]
@[simp] theorem ap_xMeth : xMeth c cf a as s h = (bd (a s h) fun x h => methO c cf x (as s h) h) := rfl
def propO (c : Nat) (f : XC) (x : PV) (h : PH) : M PV := if clsV x h = some c then f [x] h else none
@[simp] theorem propO_obj {vs : List PV} : propO c cf (.obj c vs) h = cf [.obj c vs] h := by simp [propO, clsV]
@[simp] theorem ap_xProp : xProp c cf a s h = (bd (a s h) fun x h => propO c cf x h) := rfl
def inOV (c : Nat) (f : XC) (ne : Bool) (x y : PV) (h : PH) : M PV := if clsV y h = some c then bd (f [y, x] h) fun r h => match r with
      | .bl t => some (.bl (ne ^^ t), h)
      | _ => none else none
theorem inOV_obj {vs : List PV} {ne r : Bool} (e : cf [.obj c vs, v] h = some (.bl r, h)) : inOV c cf ne v (.obj c vs) h = some (.bl (ne ^^ r), h) := by simp [inOV, clsV, e]
@[simp] theorem ap_xInO {ne : Bool} : xInO c cf ne a b s h = (bd (a s h) fun x h => bd (b s h) fun y h => inOV c cf ne x y h) := rfl
@[simp] theorem ap_xMe {m : Me} : xMe m o as s h = (bd (o s h) fun x h => ib (rcvV m x h) (bd (as s h) fun vs h => meV m x vs h) none) := rfl
@[simp] theorem ap_tNt : tNt t s h = (bd (t s h) fun b h => some (!b, h)) := rfl
@[simp] theorem ap_tTr : tTr a s h = (bd (a s h) fun v h => ob (truthV h v) fun t => some (t, h)) := rfl
@[simp] theorem ap_tBo : tBo k t u s h = (bd (t s h) fun x h => ib (x == k) (u s h) (some (x, h))) := rfl
@[simp] theorem ap_tB1 : tB1 k t s h = (bd (t s h) fun b h => ib (b == k) (some (k, h)) (some (b, h))) := rfl
@[simp] theorem ap_tYe : tYe s h = some (true, h) := rfl
@[simp] theorem ap_iSq : iSq a s h = (bd (a s h) fun x h => ob (itSeq1 x) fun l => some (l, h)) := rfl
def rng1V (x : PV) (h : PH) : M (List PV) := match x with
  | .int n => if -1000000 ≤ n ∧ n ≤ 1000000 then some (rngL 0 n.toNat, h) else none
  | _ => none
theorem rng1V_ok {n : Int} (z : 0 ≤ n) (z' : n ≤ 1000000) : rng1V (.int n) h = some (rngL 0 n.toNat, h) := if_pos ⟨by omega, z'⟩
@[simp] theorem ap_iR1 : iR1 a s h = (bd (a s h) fun x h => rng1V x h) := rfl
def rng2V (x y : PV) (h : PH) : M (List PV) := match x, y with
  | .int i, .int j => if -1000000 ≤ i ∧ i ≤ 1000000 ∧ -1000000 ≤ j ∧ j ≤ 1000000 then some (rngL i (j - i).toNat, h) else none
  | _, _ => none
@[simp] theorem ap_iR2 : iR2 a b s h = (bd (a s h) fun x h => bd (b s h) fun y h => rng2V x y h) := rfl
@[simp] theorem ap_sNx : sNx s h = some (.nx s h) := rfl
@[simp] theorem ap_sEx : sEx a s h = (bd (a s h) fun _ h => some (.nx s h)) := rfl
@[simp] theorem ap_sSt : sSt i a s h = (bd (a s h) fun x h => some (.nx (s.set i (some x)) h)) := rfl
@[simp] theorem ap_sTu {is : List Nat} : sTu is a s h = (bd (a s h) fun x h => ob (asg (.tup is) x s) fun s => some (.nx s h)) := rfl
def par2 (i j : Nat) (s : Sl) (vs : List PV) (h : PH) : Option Out := sP2 i j (fun _ h => some (vs, h)) s h
@[simp] theorem par2_ok : par2 i j s [v, w] h = some (.nx ((s.set i (some v)).set j (some w)) h) := rfl
@[simp] theorem ap_sP2 : sP2 i j as s h = (bd (as s h) fun vs h => par2 i j s vs h) := rfl
@[simp] theorem ap_sIx : sIx o b e s h = (bd (e s h) fun x h => bd (o s h) fun y h => bd (b s h) fun z h => ob (setIxV y z x h) fun h => some (.nx s h)) := rfl
@[simp] theorem ap_sFl : sFl c i o e s h = (bd (e s h) fun x h => bd (o s h) fun y h => ob (putFldV c i y x h) fun h => some (.nx s h)) := rfl
@[simp] theorem ap_sIf : sIf t p q s h = (bd (t s h) fun v h => ib v (p s h) (q s h)) := rfl
@[simp] theorem ap_sFo : sFo tg as p s h = (bd (as s h) fun xs h => forL tg p xs s h) := rfl
@[simp] theorem ap_sRt : sRt a s h = (bd (a s h) fun v h => some (.rt v h)) := rfl
@[simp] theorem ap_sRN : sRN s h = some (.rt .non h) := rfl
@[simp] theorem ap_sBk : sBk s h = some (.bk s h) := rfl
@[simp] theorem ap_sCt : sCt s h = some (.ct s h) := rfl
@[simp] theorem ap_sNo : sNo s h = none := rfl
@[simp] theorem ap_sSq : sSq p q s h = nxt (p s h) q := rfl
@[simp] theorem ap_lcV {al : Bool} {mi : XA} {mt : XT} : lcV al tg mi mt e s h = (bd (mi s h) fun xs h => bd (lcL tg mt e s xs h) fun ys h => newL al ys h) := rfl
@[simp] theorem ap_dcV {al : Bool} {mi : XA} : dcV al tg mi a b s h = (bd (mi s h) fun xs h => ob (dcL tg a b s xs [] [] h) fun p => newD al p.1 p.2.1 p.2.2) := rfl
@[simp] theorem ap_xLenSet : xLenSet a s h = (bd (a s h) fun x h => ob (txs x) fun ts => if ts.length + 1 < 4096 then some (.int (nubS ts).length, h) else none) := rfl
@[simp] theorem ap_xSortSet : xSortSet a s h = (bd (a s h) fun x h => ob (txs x) fun ts => if ts.length < 64 then some (.lst ((sortS (nubS ts)).map .str), h) else none) := rfl
@[simp] theorem ap_xAdd {al : Bool} : xAdd al a b s h = (bd (a s h) fun x h => bd (b s h) fun y h => ob (lsH h x) fun l => ob (lsH h y) fun m => if l.length + m.length ≤ sizeLine then newL al (l ++ m) h else none) := rfl
@[simp] theorem ap_xD0 {al : Bool} : xD0 al s h = newD al [] [] h := rfl
@[simp] theorem ap_mNil : mNil v s h = some (.nx s h) := rfl
@[simp] theorem ap_sMa : sMa a m s h = (bd (a s h) fun x h => m x s h) := rfl
@[simp] theorem ap_xDs {al : Bool} {ms : List XE} : xDs al ms s h = (ob (starD s ms [] [] h) fun p => newD al p.1 p.2.1 p.2.2) := rfl
end
section
variable {h : PH} {b c : Bool} {i j : Int} {l m : List PV}
@[simp] theorem truth_bl : truthV h (.bl b) = some b := rfl
@[simp] theorem truth_int : truthV h (.int i) = some (i != 0) := rfl
@[simp] theorem truth_tup : truthV h (.tup l) = some (!l.isEmpty) := rfl
@[simp] theorem truth_lst : truthV h (.lst l) = some (!l.isEmpty) := rfl
@[simp] theorem cmp_eq {x y : PV} : cmpV .eq x y h = eqV x y := rfl
@[simp] theorem cmp_ne {x y : PV} : cmpV .ne x y h = (eqV x y).map (!·) := rfl
@[simp] theorem cmp_in {x y : PV} : cmpV .in_ x y h = inV h x y := rfl
@[simp] theorem cmp_notIn {x y : PV} : cmpV .notIn x y h = (inV h x y).map (!·) := rfl
@[simp] theorem cmp_isN {x : PV} : cmpV .isN x .non h = some (isNon x) := rfl
@[simp] theorem cmp_notN {x : PV} : cmpV .notN x .non h = some (!isNon x) := rfl
@[simp] theorem cmp_lt : cmpV .lt (.int i) (.int j) h = some (decide (i < j)) := rfl
@[simp] theorem cmp_le : cmpV .le (.int i) (.int j) h = some (decide (i ≤ j)) := rfl
@[simp] theorem cmp_gt : cmpV .gt (.int i) (.int j) h = some (decide (j < i)) := rfl
@[simp] theorem cmp_ge : cmpV .ge (.int i) (.int j) h = some (decide (j ≤ i)) := rfl
@[simp] theorem in_tup {x : PV} : inV h x (.tup l) = anyEq x l := rfl
@[simp] theorem in_lst {x : PV} : inV h x (.lst l) = anyEq x l := rfl
@[simp] theorem op_add : opV .add (.int i) (.int j) = some (.int (i + j)) := rfl
@[simp] theorem op_sub : opV .sub (.int i) (.int j) = some (.int (i - j)) := rfl
@[simp] theorem op_mod : opV .mod (.int i) (.int j) = if 0 < j then some (.int (i % j)) else none := rfl
@[simp] theorem op_fdiv : opV .fdiv (.int i) (.int j) = if 0 < j ∧ j < 1073741824 then some (.int (i / j)) else none := rfl
@[simp] theorem op_mul : opV .mul (.int i) (.int j) = if (-(2 ^ 64) < i ∧ i < 2 ^ 64) ∨ (-(2 ^ 64) < j ∧ j < 2 ^ 64) then some (.int (i * j)) else none := rfl
theorem op_addT (z : l.length + m.length ≤ 4096) : opV .add (.tup l) (.tup m) = some (.tup (l ++ m)) := if_pos (Nat.le_trans z (by decide))
theorem op_addL (z : l.length + m.length ≤ 4096) : opV .add (.lst l) (.lst m) = some (.lst (l ++ m)) := if_pos (Nat.le_trans z (by decide))
@[simp] theorem len_tup : biV .len [.tup l] h = some (.int l.length, h) := rfl
@[simp] theorem len_lst : biV .len [.lst l] h = some (.int l.length, h) := rfl
@[simp] theorem len_str {x : Tx} : biV .len [.str x] h = some (.int x.length, h) := rfl
@[simp] theorem len_scr {x : List Int} : biV .len [.scr x] h = some (.int x.length, h) := rfl
@[simp] theorem bi_int : biV .int [.int i] h = some (.int i, h) := rfl
@[simp] theorem bi_intb : biV .int [.bl b] h = some (.int (if b then 1 else 0), h) := rfl
@[simp] theorem bi_abs : biV .abs [.int i] h = some (.int (if i < 0 then -i else i), h) := rfl
@[simp] theorem bi_max : biV .max [.int i, .int j] h = some (.int (if j > i then j else i), h) := rfl
@[simp] theorem bi_min : biV .min [.int i, .int j] h = some (.int (if j < i then j else i), h) := rfl
@[simp] theorem bi_tupL : biV .tuple [.lst l] h = some (.tup l, h) := rfl
@[simp] theorem bi_tupT : biV .tuple [.tup l] h = some (.tup l, h) := rfl
@[simp] theorem lst_of_tup {al : Bool} : listV al [.tup l] h = newL al l h := rfl
@[simp] theorem lst_of_lst {al : Bool} : listV al [.lst l] h = newL al l h := rfl
@[simp] theorem it_tup : itSeq1 (.tup l) = some l := rfl
@[simp] theorem it_lst : itSeq1 (.lst l) = some l := rfl
@[simp] theorem it_str {x : Tx} : itSeq1 (.str x) = some (x.map fun c => .str [c]) := rfl
@[simp] theorem seq_tup : seqV (.tup l) = some l := rfl
@[simp] theorem seq_lst : seqV (.lst l) = some l := rfl
@[simp] theorem wk_ptup : wkV (.ptup l) = .tup l := rfl
@[simp] theorem wk_tup : wkV (.tup l) = .tup l := rfl
@[simp] theorem ptupV_lst : ptupV [.lst l] h = some (.ptup l, h) := rfl
@[simp] theorem txs_tup : txs (.tup l) = strsV l := rfl
@[simp] theorem txs_lst : txs (.lst l) = strsV l := rfl
@[simp] theorem lsH_lst : lsH h (.lst l) = some l := rfl
@[simp] theorem kd_tup : kdV h (.tup l) = some "tuple" := rfl
@[simp] theorem kd_lst : kdV h (.lst l) = some "list" := rfl
@[simp] theorem kd_str {x : Tx} : kdV h (.str x) = some "str" := rfl
@[simp] theorem kd_int : kdV h (.int i) = some "int" := rfl
@[simp] theorem kd_bl : kdV h (.bl b) = some "bool" := rfl
@[simp] theorem kd_non : kdV h .non = some "NoneType" := rfl
@[simp] theorem part_t {x : PV} : partV true x = some none := rfl
@[simp] theorem part_i : partV false (.int i) = some (some i) := rfl
@[simp] theorem sl_tup {lo hi : Option Int} : slV (.tup l) lo hi = some (.tup (cutL l lo hi)) := rfl
@[simp] theorem sl_lst {lo hi : Option Int} : slV (.lst l) lo hi = some (.lst (cutL l lo hi)) := rfl
@[simp] theorem isi_NoneType_int : isiB "NoneType" "int" = false := by decide
@[simp] theorem isi_NoneType_bool : isiB "NoneType" "bool" = false := by decide
@[simp] theorem isi_NoneType_str : isiB "NoneType" "str" = false := by decide
@[simp] theorem isi_NoneType_tuple : isiB "NoneType" "tuple" = false := by decide
@[simp] theorem isi_NoneType_list : isiB "NoneType" "list" = false := by decide
@[simp] theorem isi_NoneType_dict : isiB "NoneType" "dict" = false := by decide
@[simp] theorem isi_bool_int : isiB "bool" "int" = true := by decide
@[simp] theorem isi_bool_bool : isiB "bool" "bool" = true := by decide
@[simp] theorem isi_bool_str : isiB "bool" "str" = false := by decide
@[simp] theorem isi_bool_tuple : isiB "bool" "tuple" = false := by decide
@[simp] theorem isi_bool_list : isiB "bool" "list" = false := by decide
@[simp] theorem isi_bool_dict : isiB "bool" "dict" = false := by decide
@[simp] theorem isi_int_int : isiB "int" "int" = true := by decide
@[simp] theorem isi_int_bool : isiB "int" "bool" = false := by decide
@[simp] theorem isi_int_str : isiB "int" "str" = false := by decide
@[simp] theorem isi_int_tuple : isiB "int" "tuple" = false := by decide
@[simp] theorem isi_int_list : isiB "int" "list" = false := by decide
@[simp] theorem isi_int_dict : isiB "int" "dict" = false := by decide
@[simp] theorem isi_str_int : isiB "str" "int" = false := by decide
@[simp] theorem isi_str_bool : isiB "str" "bool" = false := by decide
@[simp] theorem isi_str_str : isiB "str" "str" = true := by decide
@[simp] theorem isi_str_tuple : isiB "str" "tuple" = false := by decide
@[simp] theorem isi_str_list : isiB "str" "list" = false := by decide
@[simp] theorem isi_str_dict : isiB "str" "dict" = false := by decide
@[simp] theorem isi_tuple_int : isiB "tuple" "int" = false := by decide
@[simp] theorem isi_tuple_bool : isiB "tuple" "bool" = false := by decide
@[simp] theorem isi_tuple_str : isiB "tuple" "str" = false := by decide
@[simp] theorem isi_tuple_tuple : isiB "tuple" "tuple" = true := by decide
@[simp] theorem isi_tuple_list : isiB "tuple" "list" = false := by decide
@[simp] theorem isi_tuple_dict : isiB "tuple" "dict" = false := by decide
@[simp] theorem isi_list_int : isiB "list" "int" = false := by decide
@[simp] theorem isi_list_bool : isiB "list" "bool" = false := by decide
@[simp] theorem isi_list_str : isiB "list" "str" = false := by decide
@[simp] theorem isi_list_tuple : isiB "list" "tuple" = false := by decide
@[simp] theorem isi_list_list : isiB "list" "list" = true := by decide
@[simp] theorem isi_list_dict : isiB "list" "dict" = false := by decide
@[simp] theorem isi_dict_int : isiB "dict" "int" = false := by decide
@[simp] theorem isi_dict_bool : isiB "dict" "bool" = false := by decide
@[simp] theorem isi_dict_str : isiB "dict" "str" = false := by decide
@[simp] theorem isi_dict_tuple : isiB "dict" "tuple" = false := by decide
@[simp] theorem isi_dict_list : isiB "dict" "list" = false := by decide
@[simp] theorem isi_dict_dict : isiB "dict" "dict" = true := by decide
theorem ix_tup {n : Nat} : ixV h (.tup l) (.int n) = l[n]? := by
  show (ixN' l.length n).bind (fun j => l[j]?) = _
  unfold ixN'
  rw [if_pos (by omega)]
  split
  · simp
  · rw [List.getElem?_eq_none (by omega)]; rfl
theorem ix_lst {n : Nat} : ixV h (.lst l) (.int n) = l[n]? := by
  show (ixN' l.length n).bind (fun j => l[j]?) = _
  unfold ixN'
  rw [if_pos (by omega)]
  split
  · simp
  · rw [List.getElem?_eq_none (by omega)]; rfl
@[simp] theorem ix_tup0 : ixV h (.tup l) (.int 0) = l[0]? := ix_tup (n := 0)
@[simp] theorem ix_tup1 : ixV h (.tup l) (.int 1) = l[1]? := ix_tup (n := 1)
@[simp] theorem ix_tup2 : ixV h (.tup l) (.int 2) = l[2]? := ix_tup (n := 2)
@[simp] theorem ix_tup3 : ixV h (.tup l) (.int 3) = l[3]? := ix_tup (n := 3)
@[simp] theorem ix_lst0 : ixV h (.lst l) (.int 0) = l[0]? := ix_lst (n := 0)
@[simp] theorem ix_lst1 : ixV h (.lst l) (.int 1) = l[1]? := ix_lst (n := 1)
@[simp] theorem ix_lst2 : ixV h (.lst l) (.int 2) = l[2]? := ix_lst (n := 2)
@[simp] theorem ix_lst3 : ixV h (.lst l) (.int 3) = l[3]? := ix_lst (n := 3)
theorem ix_ref {n : Nat} {x : List PV} (e : h[n]? = some (.lst x)) (i : Nat) : ixV h (.ref n) (.int i) = x[i]? := by
  show (match h[n]? with
    | some (.lst l) => (ixN' l.length i).bind fun j => l[j]?
    | some (.dct ks l) => (toDK (.int i)).bind fun k => lkp ks l k
    | _ => none) = _
  rw [e]
  exact ix_lst (h := h)
theorem setIx_ref {n : Nat} {x : List PV} {v : PV} (e : h[n]? = some (.lst x)) (i : Nat) (z : i < x.length) : setIxV (.ref n) (.int i) v h = some (h.set n (.lst (x.set i v))) := by
  show (match h[n]? with
    | some (.lst l) => (ixN' l.length i).map fun j => h.set n (.lst (l.set j v))
    | some (.dct ks l) => _
    | _ => none) = _
  rw [e]
  show (ixN' x.length i).map _ = _
  unfold ixN'
  rw [if_pos (by omega), if_pos (by omega)]
  simp
end
/-- what runs over what is made of some things -/
theorem lcL_g {α : Type} {tg : Tg} {elt : XE} {s : Sl} {h : PH} {g : α → PV} (f : α → PV) (xs : List α) (H : ∀ x ∈ xs, ∃ s1, asg tg (g x) s = some s1 ∧ elt s1 h = some (f x, h)) : lcL tg tYe elt s (xs.map g) h = some (xs.map f, h) := by
  induction xs with
  | nil => rfl
  | cons x xs ih =>
    obtain ⟨s1, e1, e2⟩ := H x List.mem_cons_self
    rw [List.map_cons]
    unfold lcL
    simp only [e1, tYe, e2]
    rw [ih fun y hy => H y (List.mem_cons_of_mem _ hy)]
    rfl
theorem lcL_gf {α : Type} {tg : Tg} {test : XT} {elt : XE} {s : Sl} {h : PH} {g : α → PV} (p : α → Bool) (f : α → PV) (xs : List α) (H : ∀ x ∈ xs, ∃ s1, asg tg (g x) s = some s1 ∧ test s1 h = some (p x, h) ∧ (p x = true → elt s1 h = some (f x, h))) : lcL tg test elt s (xs.map g) h = some ((xs.filter p).map f, h) := by
  induction xs with
  | nil => rfl
  | cons x xs ih =>
    obtain ⟨s1, e1, e2, e3⟩ := H x List.mem_cons_self
    have ih := ih fun y hy => H y (List.mem_cons_of_mem _ hy)
    rw [List.map_cons]
    unfold lcL
    simp only [e1, e2]
    cases hp : p x with
    | false => simp only [ih, List.filter_cons, hp]; rfl
    | true => simp only [e3 hp, ih, List.filter_cons, hp, if_true, List.map_cons]
@[simp] theorem kd0_tup {l : List PV} : kd0 (.tup l) = "tuple" := rfl
end Lt

set_option maxRecDepth 100000
namespace Lt
open PySem PySem.Builtin PySem.Builtin.Str
theorem isIn_one {c : Nat} {z : Tx} : isIn [c] z = decide (c ∈ z) := by
  have h := StrLaws.found_iff (sx z) (sx [c])
  have e : isIn [c] z = (!(occurrences (sx z) (sx [c]) 0 (sx z).length 1).isEmpty) := rfl
  rw [Bool.eq_iff_iff, e, h, decide_eq_true_iff]
  constructor
  · rintro ⟨i, hi⟩
    exact List.mem_of_getElem? ((StrLaws.subAt_one (sx z) c i).mp hi)
  · intro hm
    obtain ⟨i, hi⟩ := List.getElem?_of_mem hm
    exact ⟨i, (StrLaws.subAt_one (sx z) c i).mpr hi⟩
theorem stripV_nil {x cs : Tx} : stripV x cs = [] ↔ ∀ c ∈ x, c ∈ cs := by
  have goes : ∀ c, (sx cs).cps.contains c = true ↔ c ∈ cs := fun c => by simp
  have hx : (sx x).length = x.length := by simp [Str.length]
  have gd : ∀ k, k < x.length → (sx x).cps.getD k 0 ∈ x := fun k hk => by
    rw [← PyProof.Rows.getD_list]
    simp [List.getD, hk]
  have e : stripV x cs = (strSub (sx x) (stripLo (sx cs).cps.contains true (sx x)) (stripHi (sx cs).cps.contains true (sx x) (stripLo (sx cs).cps.contains true (sx x)))).cps.toList := by
    unfold stripV Txt.stripChars
    rw [PyProof.Rows.stripBy_eq]
  obtain ⟨l1, l2, l3⟩ := PyProof.Rows.lo_facts (sx cs).cps.contains (sx x)
  obtain ⟨r1, r2, r3, r4⟩ := PyProof.Rows.hi_facts (sx cs).cps.contains (sx x) _ l1
  rw [e]
  generalize stripLo (sx cs).cps.contains true (sx x) = lo at *
  generalize stripHi (sx cs).cps.contains true (sx x) lo = hi at *
  have em : (strSub (sx x) lo hi).cps.toList = [] ↔ lo = hi := by
    show ((sx x).cps.extract lo hi).toList = [] ↔ _
    rw [← List.length_eq_zero_iff, Array.length_toList, Array.size_extract]
    have : (sx x).cps.size = (sx x).length := rfl
    omega
  rw [em]
  constructor
  · intro h c hc
    obtain ⟨k, hk, ek⟩ := List.getElem_of_mem hc
    have gk : (sx x).cps.getD k 0 = c := by
      rw [← PyProof.Rows.getD_list]
      simp [List.getD, hk, ek]
    rw [← goes, ← gk]
    by_cases hkl : k < lo
    · exact l2 k hkl
    · exact r3 k (by omega) (by omega)
  · intro h
    have : lo = (sx x).length := by
      rcases l3 with l3 | l3
      · exact l3
      · by_cases hl : lo < x.length
        · have := (goes _).mpr (h _ (gd lo hl))
          rw [this] at l3
          cases l3
        · omega
    omega
def letters : Tx := [97, 98, 99, 100, 101, 102, 103, 104, 105, 106, 107, 108, 109, 110, 111, 112, 113, 114, 115, 116, 117, 118, 119, 120, 121, 122]
/-- a name's signs -/
def nameT (x : Tx) : Bool := decide (1 ≤ x.length) && (decide (x.length ≤ 8) && x.all fun c => decide (c ∈ letters))
@[simp] theorem in_str {x z : Tx} {h : PH} : inV h (.str x) (.str z) = some (isIn x z) := rfl
@[simp] theorem me_strip {x cs : Tx} {h : PH} : meV .strip (.str x) [.str cs] h = some (.str (stripV x cs), h) := rfl
@[simp] theorem rc_strip {x : Tx} {h : PH} : rcvV .strip (.str x) h = true := rfl
theorem endN_nat {n d v : Nat} : endN n d (some (v : Int)) = min v n := by
  unfold endN
  simp only [show ¬ ((v : Int) < 0) from by omega, if_false, Int.toNat_natCast]
section
variable {α : Type} {l : List α} {n m : Nat}
theorem cut_all : cutL l none none = l := by
  unfold cutL
  simp [endN]
theorem cut_from (z : n ≤ l.length) : cutL l (some (n : Int)) none = l.drop n := by
  unfold cutL
  rw [endN_nat, Nat.min_eq_left z]
  show (l.drop n).take (l.length - n) = _
  exact List.take_of_length_le (by rw [List.length_drop]; exact Nat.le_refl _)
theorem cut_to (z : n ≤ l.length) : cutL l none (some (n : Int)) = l.take n := by
  unfold cutL
  rw [endN_nat, Nat.min_eq_left z]
  show (l.drop 0).take (n - 0) = _
  simp
theorem cut_mid (z : n ≤ m) (z' : m ≤ l.length) : cutL l (some (n : Int)) (some (m : Int)) = (l.drop n).take (m - n) := by
  unfold cutL
  rw [endN_nat, endN_nat, Nat.min_eq_left z', Nat.min_eq_left (Nat.le_trans z z')]
theorem cut_last : cutL l none (some (-1)) = l.dropLast := by
  unfold cutL
  have e1 : endN l.length 0 none = 0 := rfl
  have e2 : endN l.length l.length (some (-1)) = l.length - 1 := by
    unfold endN
    simp only [show ((-1 : Int) < 0) from by decide, if_true]
    omega
  rw [e1, e2, List.drop_zero, Nat.sub_zero, List.dropLast_eq_take]
end
theorem nubS_mem {x : Tx} : ∀ {l : List Tx}, x ∈ nubS l ↔ x ∈ l
  | [] => by simp [nubS]
  | y :: l => by
    unfold nubS
    split
    · rename_i h
      rw [nubS_mem, List.mem_cons]
      constructor
      · exact .inr
      · rintro (e | e)
        · exact e ▸ nubS_mem.mp h
        · exact e
    · rw [List.mem_cons, List.mem_cons, nubS_mem]
theorem nubS_len : ∀ {l : List Tx}, (nubS l).length ≤ l.length
  | [] => Nat.le_refl _
  | y :: l => by
    unfold nubS
    split
    · exact Nat.le_succ_of_le nubS_len
    · exact Nat.succ_le_succ nubS_len
theorem nubS_nodup_iff : ∀ {l : List Tx}, (nubS l).length = l.length ↔ l.Nodup
  | [] => by simp [nubS]
  | y :: l => by
    unfold nubS
    split
    · rename_i h
      have := nubS_len (l := l)
      constructor
      · intro e
        rw [List.length_cons] at e
        omega
      · intro e
        exact absurd (nubS_mem.mp h) (List.nodup_cons.mp e).1
    · rename_i h
      rw [List.length_cons, List.length_cons, Nat.add_right_cancel_iff, nubS_nodup_iff, List.nodup_cons]
      constructor
      · exact fun e => ⟨fun m => h (nubS_mem.mpr m), e⟩
      · exact fun e => e.2
theorem insS_mem' {x z : Tx} : ∀ {l : List Tx}, x ∈ insS z l ↔ x = z ∨ x ∈ l
  | [] => by simp [insS]
  | y :: l => by
    unfold insS
    split
    · rw [List.mem_cons, List.mem_cons, insS_mem']
      constructor
      · rintro (e | e | e) <;> simp [e]
      · rintro (e | e | e) <;> simp [e]
    · rw [List.mem_cons]
theorem sortS_mem' {x : Tx} : ∀ {l : List Tx}, x ∈ sortS l ↔ x ∈ l
  | [] => by simp [sortS]
  | y :: l => by
    unfold sortS
    rw [insS_mem', List.mem_cons, sortS_mem']
theorem insS_len' {z : Tx} : ∀ {l : List Tx}, (insS z l).length = l.length + 1
  | [] => rfl
  | y :: l => by
    unfold insS
    split
    · rw [List.length_cons, insS_len', List.length_cons]
    · rfl
theorem sortS_len' : ∀ {l : List Tx}, (sortS l).length = l.length
  | [] => rfl
  | y :: l => by
    unfold sortS
    rw [insS_len', sortS_len', List.length_cons]
end Lt


set_option maxRecDepth 100000
namespace Lt
open PySem
def putAll (kd : PV → DK) (vf : PV → PV) : List PV → List DK → List PV → List DK × List PV
  | [], ks, l => (ks, l)
  | x :: xs, ks, l => putAll kd vf xs (putV ks l (kd x) (vf x)).1 (putV ks l (kd x) (vf x)).2
theorem dcL_ok {tg : Tg} {kx vx : XE} {s : Sl} {h : PH} (kd : PV → DK) (vf : PV → PV) : ∀ (xs : List PV) (ks : List DK) (l : List PV),
    (∀ x ∈ xs, ∃ s1 kv, asg tg x s = some s1 ∧ kx s1 h = some (kv, h) ∧ toDK kv = some (kd x) ∧ vx s1 h = some (vf x, h)) → dcL tg kx vx s xs ks l h = some ((putAll kd vf xs ks l).1, (putAll kd vf xs ks l).2, h)
  | [], _, _, _ => rfl
  | x :: xs, ks, l, H => by
    obtain ⟨s1, kv, e1, e2, e3, e4⟩ := H x List.mem_cons_self
    unfold dcL
    simp only [e1, e2, e3, e4]
    exact dcL_ok kd vf xs _ _ fun y hy => H y (List.mem_cons_of_mem _ hy)
theorem hasK_iff {ks : List DK} {k : DK} : hasK ks k = true ↔ k ∈ ks := by simp [hasK]
theorem putV_new {ks : List DK} {l : List PV} {k : DK} {v : PV} (h : k ∉ ks) : putV ks l k v = (ks ++ [k], l ++ [v]) := if_neg fun e => h (hasK_iff.mp e)
theorem putAll_new (kd : PV → DK) (vf : PV → PV) : ∀ (xs : List PV) (ks : List DK) (l : List PV), (ks ++ xs.map kd).Nodup → putAll kd vf xs ks l = (ks ++ xs.map kd, l ++ xs.map vf)
  | [], ks, l, _ => by simp [putAll]
  | x :: xs, ks, l, h => by
    have h1 : kd x ∉ ks := fun e => by
      rw [List.map_cons, List.nodup_append] at h
      exact h.2.2 _ e _ List.mem_cons_self rfl
    unfold putAll
    rw [putV_new h1]
    rw [putAll_new kd vf xs _ _ (by rw [List.append_assoc]; exact h)]
    simp
theorem mergeV_new : ∀ (ks' : List DK) (l' : List PV) (ks : List DK) (l : List PV), ks'.length = l'.length → (ks ++ ks').Nodup → mergeV ks l ks' l' = (ks ++ ks', l ++ l')
  | [], [], ks, l, _, _ => by simp [mergeV]
  | k :: r, v :: s, ks, l, e, h => by
    have h1 : k ∉ ks := fun e => by
      rw [List.nodup_append] at h
      exact h.2.2 _ e _ List.mem_cons_self rfl
    unfold mergeV
    rw [putV_new h1, mergeV_new r s _ _ (by simpa using e) (by rw [List.append_assoc]; exact h)]
    simp
/-- the different ones, the first one first -/
def ddA : List Tx → List Tx → List Tx
  | [], a => a
  | x :: l, a => ddA l (if x ∈ a then a else a ++ [x])
def dd (l : List Tx) : List Tx := ddA l []
theorem ddA_mem {x : Tx} : ∀ {l a : List Tx}, x ∈ ddA l a ↔ x ∈ l ∨ x ∈ a
  | [], a => by simp [ddA]
  | y :: l, a => by
    unfold ddA
    rw [ddA_mem]
    split
    · rename_i h
      constructor
      · rintro (e | e)
        · exact .inl (List.mem_cons_of_mem _ e)
        · exact .inr e
      · rintro (e | e)
        · rcases List.mem_cons.mp e with e | e
          · exact .inr (e ▸ h)
          · exact .inl e
        · exact .inr e
    · simp only [List.mem_append, List.mem_cons, List.not_mem_nil, or_false]
      constructor
      · rintro (e | e | e) <;> simp [e]
      · rintro ((e | e) | e) <;> simp [e]
theorem dd_mem {x : Tx} {l : List Tx} : x ∈ dd l ↔ x ∈ l := by simp [dd, ddA_mem]
theorem ddA_nodup : ∀ {l a : List Tx}, a.Nodup → (ddA l a).Nodup
  | [], a, h => h
  | y :: l, a, h => by
    unfold ddA
    refine ddA_nodup ?_
    split
    · exact h
    · rename_i hy
      rw [List.nodup_append]
      exact ⟨h, by simp, fun b hb c hc e => hy (by rw [List.mem_singleton] at hc; rw [← hc, ← e]; exact hb)⟩
theorem dd_nodup {l : List Tx} : (dd l).Nodup := ddA_nodup List.nodup_nil
theorem ddA_len : ∀ {l a : List Tx}, (ddA l a).length ≤ l.length + a.length
  | [], a => by simp [ddA]
  | y :: l, a => by
    unfold ddA
    refine Nat.le_trans ddA_len ?_
    split
    · rw [List.length_cons]; omega
    · rw [List.length_cons, List.length_append]; simp; omega
theorem dd_len {l : List Tx} : (dd l).length ≤ l.length := Nat.le_trans ddA_len (by simp)
theorem putAll_same (f : PV → Tx) (c : PV) : ∀ (xs : List PV) (a : List Tx), putAll (fun x => .inr (f x)) (fun _ => c) xs (a.map .inr) (a.map fun _ => c) = ((ddA (xs.map f) a).map .inr, (ddA (xs.map f) a).map fun _ => c)
  | [], a => rfl
  | x :: xs, a => by
    unfold putAll
    have e : putV (a.map .inr) (a.map fun _ => c) (.inr (f x)) c = ((if f x ∈ a then a else a ++ [f x]).map .inr, (if f x ∈ a then a else a ++ [f x]).map fun _ => c) := by
      by_cases h : f x ∈ a
      · rw [if_pos h]
        unfold putV
        rw [if_pos (hasK_iff.mpr (List.mem_map_of_mem h))]
        congr 1
        have : ∀ b : List Tx, ((b.map Sum.inr).zip (b.map fun _ => c)).map (fun p : DK × PV => if p.1 = Sum.inr (f x) then c else p.2) = b.map fun _ => c := by
          intro b
          induction b with
          | nil => rfl
          | cons y b ih => simp only [List.map_cons, List.zip_cons_cons, ih, ite_self]
        exact this a
      · rw [if_neg h, putV_new (by simpa using h)]
        simp
    rw [e]
    rw [putAll_same f c xs, List.map_cons, ddA]
theorem lkp_app {ks ks' : List DK} {l l' : List PV} {k : DK} (e : ks.length = l.length) : lkp (ks ++ ks') (l ++ l') k = (lkp ks l k).or (lkp ks' l' k) := by
  unfold lkp
  rw [List.zip_append e, List.find?_append]
  cases List.find? (fun p => decide (p.fst = k)) (ks.zip l) <;> rfl
theorem lkp_const {c : PV} {x : Tx} : ∀ {a : List Tx}, lkp (a.map .inr) (a.map fun _ => c) (.inr x) = if x ∈ a then some c else none
  | [] => rfl
  | y :: a => by
    have ih := lkp_const (c := c) (x := x) (a := a)
    unfold lkp at ih ⊢
    rw [List.map_cons, List.map_cons, List.zip_cons_cons, List.find?_cons]
    by_cases h : y = x
    · subst h
      simp
    · have : decide ((Sum.inr y : DK) = Sum.inr x) = false := by simpa using h
      simp only [this, ih, List.mem_cons, show ¬ x = y from fun e => h e.symm, false_or]
theorem nameT_k {x : Tx} (e : nameT x = true) : kOk (.inr x) = true := by
  unfold nameT at e
  simp only [Bool.and_eq_true, decide_eq_true_eq, List.all_eq_true] at e
  unfold kOk
  simp only [Bool.and_eq_true, decide_eq_true_eq, List.all_eq_true]
  refine ⟨by rw [sizeLine_eq]; omega, fun c hc => ?_⟩
  have := e.2.2 c hc
  have h : ∀ c ∈ letters, c < 0x110000 := by decide
  exact h c this
theorem ksOk_map {l : List Tx} (h : ∀ x ∈ l, nameT x = true) : ksOk (l.map .inr) = true := List.all_eq_true.mpr fun k hk => by
  obtain ⟨x, hx, rfl⟩ := List.mem_map.mp hk
  exact nameT_k (h x hx)
theorem keysL_map {l : List Tx} : keysL (l.map .inr) = l.map .str := by
  unfold keysL
  rw [List.map_map]
  rfl
theorem list_keys {l : List Tx} {vs : List PV} {h : PH} {al : Bool} (e : ∀ x ∈ l, nameT x = true) (z : l.length ≤ 4096) : listV al [.dct (l.map .inr) vs] h = newL al (l.map .str) h := by
  show (if ksOk (l.map .inr) = true ∧ (l.map (Sum.inr : Tx → DK)).length ≤ sizeLine then newL al (keysL (l.map .inr)) h else none) = _
  rw [if_pos ⟨ksOk_map e, by rw [sizeLine_eq, List.length_map]; omega⟩, keysL_map]
theorem keys_walk {l : List Tx} {vs : List PV} {s : Sl} {h h' : PH} {m : XE} (e : ∀ x ∈ l, nameT x = true) (z : l.length ≤ 4096) (em : m s h = some (.dct (l.map .inr) vs, h')) : dwV .keys m s h = some (l.map .str, h') := by
  unfold dwV
  rw [em]
  show (if ksOk (l.map .inr) = true ∧ (l.map (Sum.inr : Tx → DK)).length ≤ sizeLine then some (Dw.xs .keys (l.map .inr) vs, h') else none) = _
  rw [if_pos ⟨ksOk_map e, by rw [sizeLine_eq, List.length_map]; omega⟩]
  exact congrArg (fun x => some (x, h')) keysL_map
theorem last_at {h : PH} {o : PO} : (h ++ [o])[h.length]? = some o := by simp
theorem put_new {h : PH} {c i L : Nat} {v : PV} {l : List (Option PV)} (e : h.length = L) : putFldV c i (.ref L) v (h ++ [.ins c l]) = some (h ++ [.ins c (putD i v l)]) := by
  subst e
  unfold putFldV
  simp
theorem fld_new {h : PH} {c i L : Nat} {v : PV} {l : List (Option PV)} (e : h.length = L) (g : l[i]? = some (some v)) : fldO c i (.ref L) (h ++ [.ins c l]) = some (v, h ++ [.ins c l]) := by
  subst e
  unfold fldO
  simp [clsV, slotV, g]
theorem loose_ok {h : PH} {c L : Nat} {l : List (Option PV)} {x : PV} {xs : List PV} (e : h.length = L) (a : allS l = some (x :: xs)) (cl : PV.cls L (x :: xs) = true) (ch : h.all (PO.cl L) = true) : loose L c (h ++ [.ins c l]) = some (.obj c (x :: xs), h) := by
  subst e
  unfold loose
  simp only [last_at, a, List.take_left', List.length_append, List.length_singleton]
  simp [cl, ch]
theorem nodup_inr : ∀ {l : List Tx}, l.Nodup → (l.map (Sum.inr : Tx → DK)).Nodup
  | [], _ => List.nodup_nil
  | x :: l, h => by
    rw [List.map_cons, List.nodup_cons]
    obtain ⟨h1, h2⟩ := List.nodup_cons.mp h
    exact ⟨fun e => by
      obtain ⟨y, hy, e⟩ := List.mem_map.mp e
      cases e
      exact h1 hy, nodup_inr h2⟩
theorem cls_of {n : Nat} : ∀ {l : List PV}, (∀ x ∈ l, x.cl n = true) → PV.cls n l = true
  | [], _ => rfl
  | x :: l, h => by
    show (PV.cl n x && PV.cls n l) = true
    rw [h x List.mem_cons_self, cls_of fun y hy => h y (List.mem_cons_of_mem _ hy)]
    rfl
theorem cls_mem {n : Nat} : ∀ {l : List PV}, PV.cls n l = true → ∀ x ∈ l, x.cl n = true
  | y :: l, h, x, hx => by
    have h' : (PV.cl n y && PV.cls n l) = true := h
    rw [Bool.and_eq_true] at h'
    rcases List.mem_cons.mp hx with e | e
    · exact e ▸ h'.1
    · exact cls_mem h'.2 x e
theorem cls_app {n : Nat} {l m : List PV} (h : PV.cls n l = true) (g : PV.cls n m = true) : PV.cls n (l ++ m) = true := cls_of fun x hx => (List.mem_append.mp hx).elim (cls_mem h x) (cls_mem g x)
@[simp] theorem cls_strs {n : Nat} {l : List Tx} : PV.cls n (l.map .str) = true := cls_of fun x hx => by
  obtain ⟨y, _, rfl⟩ := List.mem_map.mp hx
  rfl
theorem cls_const {n : Nat} {l : List Tx} {x : Tx} : PV.cls n (l.map fun _ => .str x) = true := cls_of fun y hx => by
  obtain ⟨z, _, rfl⟩ := List.mem_map.mp hx
  rfl
/-- a loop that ends at the first that is not so -/
theorem forL_all {tg : Tg} {body : Sl → PH → Option Out} {h : PH} {v : PV} (p : PV → Bool) (I : Sl → Prop) : ∀ (xs : List PV) (s : Sl), I s →
    (∀ x ∈ xs, ∀ s, I s → ∃ s1, asg tg x s = some s1 ∧ I s1 ∧ body s1 h = if p x = true then some (.nx s1 h) else some (.rt v h)) →
    (xs.all p = true → ∃ s', forL tg body xs s h = some (.nx s' h) ∧ I s') ∧ (xs.all p = false → forL tg body xs s h = some (.rt v h))
  | [], s, i, _ => ⟨fun _ => ⟨s, rfl, i⟩, fun e => by simp at e⟩
  | x :: xs, s, i, H => by
    obtain ⟨s1, e1, i1, e2⟩ := H x List.mem_cons_self s i
    have ih := forL_all p I xs s1 i1 fun y hy => H y (List.mem_cons_of_mem _ hy)
    unfold forL
    simp only [e1, e2, List.all_cons]
    cases hp : p x with
    | true =>
      simp only [if_true, Bool.true_and]
      exact ih
    | false =>
      simp
/-- the one not so ones, none -/
theorem none_of {xs : List PV} {p : PV → Bool} : (xs.filter fun x => !p x).isEmpty = xs.all p := by
  induction xs with
  | nil => rfl
  | cons x xs ih => cases hp : p x <;> simp_all [List.filter_cons]
end Lt

set_option maxRecDepth 100000
namespace Lt
open PySem
mutual
/-- data with numbers of at most 61 digits -/
def okV : PV → Bool
  | .non => true
  | .bl _ => true
  | .int i => decide (i.natAbs < 10 ^ 61)
  | .str x => x.all fun c => decide (c < 4294967296)
  | .tup l => okVs l
  | .lst l => okVs l
  | .dct [] [] => true
  | _ => false
def okVs : List PV → Bool
  | [] => true
  | x :: l => okV x && okVs l
end
mutual
def dpt : PV → Nat
  | .tup l => dpts l + 1
  | .lst l => dpts l + 1
  | .dct _ _ => 1
  | _ => 0
def dpts : List PV → Nat
  | [] => 0
  | x :: l => max (dpt x) (dpts l)
end
mutual
def wt : PV → Nat
  | .int _ => 62
  | .str x => 10 * x.length + 2
  | .tup l => wts l + 2
  | .lst l => wts l + 2
  | _ => 5
def wts : List PV → Nat
  | [] => 0
  | x :: l => wt x + 2 + wts l
end
structure GV (n w : Nat) (v : PV) : Prop where
  ok : okV v = true
  dp : dpt v ≤ n
  wt : wt v ≤ w
theorem okVs_iff : ∀ {l : List PV}, okVs l = true ↔ ∀ x ∈ l, okV x = true
  | [] => by simp [okVs]
  | x :: l => by
    simp only [okVs, Bool.and_eq_true, List.mem_cons, okVs_iff (l := l)]
    exact ⟨fun ⟨h, g⟩ y hy => hy.elim (fun e => e ▸ h) (g y), fun h => ⟨h x (.inl rfl), fun y hy => h y (.inr hy)⟩⟩
theorem dpts_le {n : Nat} : ∀ {l : List PV}, dpts l ≤ n ↔ ∀ x ∈ l, dpt x ≤ n
  | [] => by simp [dpts]
  | x :: l => by
    simp only [dpts, Nat.max_le, List.mem_cons, dpts_le (l := l)]
    exact ⟨fun ⟨h, g⟩ y hy => hy.elim (fun e => e ▸ h) (g y), fun h => ⟨h x (.inl rfl), fun y hy => h y (.inr hy)⟩⟩
theorem wts_app : ∀ {l m : List PV}, wts (l ++ m) = wts l + wts m
  | [], m => by simp [wts]
  | x :: l, m => by simp only [List.cons_append, wts, wts_app (l := l)]; omega
theorem wts_mem {x : PV} : ∀ {l : List PV}, x ∈ l → wt x + 2 ≤ wts l
  | y :: l, h => by
    simp only [wts]
    rcases List.mem_cons.mp h with e | h
    · subst e
      omega
    · have := wts_mem h
      omega
theorem wts_le {w : Nat} : ∀ {l : List PV}, (∀ x ∈ l, wt x ≤ w) → wts l ≤ l.length * (w + 2)
  | [], _ => by simp [wts]
  | x :: l, h => by
    have h1 := h x List.mem_cons_self
    have h2 := wts_le (l := l) fun y hy => h y (List.mem_cons_of_mem _ hy)
    simp only [wts, List.length_cons, Nat.succ_mul]
    omega
theorem GV.mono {n w n' w' : Nat} {v : PV} (g : GV n w v) (h : n ≤ n') (h' : w ≤ w') : GV n' w' v := ⟨g.ok, Nat.le_trans g.dp h, Nat.le_trans g.wt h'⟩
theorem gv_tup {n w m : Nat} {l : List PV} (h : ∀ x ∈ l, GV n w x) (z : l.length ≤ m) : GV (n + 1) (m * (w + 2) + 2) (.tup l) := by
  refine ⟨?_, ?_, ?_⟩
  · simp only [okV]
    exact okVs_iff.mpr fun x hx => (h x hx).ok
  · simp only [dpt]
    have := (dpts_le (n := n) (l := l)).mpr fun x hx => (h x hx).dp
    omega
  · simp only [wt]
    have h1 := wts_le (w := w) (l := l) fun x hx => (h x hx).wt
    have h2 : l.length * (w + 2) ≤ m * (w + 2) := Nat.mul_le_mul_right _ z
    omega
theorem len_piled : ∀ (ts : List Str), (listText ts).length ≤ piled ts + 2
  | [] => by decide +kernel
  | t :: ts => by
    have e : (listText (t :: ts)).length = (textFrom 1 ("[" ++ "" ++ t) ts).length + 1 := by
      show (textFrom 1 (("[" : Str) ++ (if 0 > 0 then ", " else "" : String) ++ t) ts ++ ("]" : Str)).length = _
      rw [strLen_append]
      rfl
    rw [e, textFrom_length_pos ts 1 _ (by decide), strLen_append, strLen_append, piled_cons]
    have e1 : (("[" : String) : Str).length = 1 := rfl
    have e2 : (("" : String) : Str).length = 0 := rfl
    omega
mutual
theorem okV_rp : ∀ (v : PV), okV v = true → ∃ d, v.rp = some d ∧ d.depth = dpt v ∧ d.showable = true ∧ d.shown.length ≤ wt v
  | .non, _ => ⟨.none, rfl, by simp [PyData.depth, dpt], by simp [PyData.showable], by simp only [PyData.shown, wt]; decide +kernel⟩
  | .bl b, _ => ⟨.bool b, rfl, by simp [PyData.depth, dpt], by simp [PyData.showable], by simp only [PyData.shown, wt]; cases b <;> decide +kernel⟩
  | .int i, h => by
    have h : i.natAbs < 10 ^ 61 := of_decide_eq_true (by simpa only [okV] using h)
    refine ⟨.int i, rfl, by simp [PyData.depth, dpt], ?_, ?_⟩
    · simp only [PyData.showable, decide_eq_true_eq]
      by_cases h0 : i.natAbs = 0
      · rw [h0]
        decide
      · rw [Nat.log2_lt h0]
        exact Nat.lt_trans h (by decide +kernel)
    · simp only [PyData.shown, wt]
      have := int_text_length_le10 (a := i) (k := 61) (by decide) h
      show (Str.ofString (toString i)).length ≤ 62
      rw [ofString_length]
      exact this
  | .str x, h => by
    have h : (x.all fun c => decide (c < 4294967296)) = true := by simpa only [okV] using h
    refine ⟨.str (sx x), rfl, by simp [PyData.depth, dpt], by simp [PyData.showable], ?_⟩
    simp only [PyData.shown, wt]
    have := StrLaws.reprText_len (sx x) fun c hc => by
      have := List.all_eq_true.mp h c (by simpa using hc)
      exact of_decide_eq_true this
    simpa [Str.length] using this
  | .tup l, h => by
    obtain ⟨ds, e, h1, h2, h3⟩ := okVs_rp l (by simpa only [okV] using h)
    refine ⟨.tuple ds, by simp only [PV.rp, e, Option.map], by simp only [PyData.depth, dpt, h1], by simp only [PyData.showable, h2], ?_⟩
    simp only [PyData.shown, wt]
    exact Nat.le_trans (fmt_text _) (by omega)
  | .lst l, h => by
    obtain ⟨ds, e, h1, h2, h3⟩ := okVs_rp l (by simpa only [okV] using h)
    refine ⟨.list ds, by simp only [PV.rp, e, Option.map], by simp only [PyData.depth, dpt, h1], by simp only [PyData.showable, h2], ?_⟩
    simp only [PyData.shown, wt]
    exact Nat.le_trans (len_piled _) (by omega)
  | .dct [] [], _ => ⟨.dict [], rfl, by simp [PyData.depth, PyData.depthKv, dpt], by simp [PyData.showable, PyData.showableKv], by simp only [PyData.shown, PyData.shownKv, wt]; decide +kernel⟩
  | .dct [] (x :: l), h => by simp [okV] at h
  | .dct (k :: ks) l, h => by simp [okV] at h
  | .obj _ _, h => by simp [okV] at h
  | .ref _, h => by simp [okV] at h
  | .scr _, h => by simp [okV] at h
  | .rtx _, h => by simp [okV] at h
  | .ptup _, h => by simp [okV] at h
theorem okVs_rp : ∀ (l : List PV), okVs l = true → ∃ ds, PV.rps l = some ds ∧ PyData.depthAll ds = dpts l ∧ PyData.showableAll ds = true ∧ piled (PyData.shownAll ds) ≤ wts l
  | [], _ => ⟨[], rfl, by simp [PyData.depthAll, dpts], by simp [PyData.showableAll], by simp [PyData.shownAll, wts, piled_nil]⟩
  | x :: l, h => by
    have h' : okV x = true ∧ okVs l = true := by simpa only [okVs, Bool.and_eq_true] using h
    obtain ⟨d, e1, h1, h2, h3⟩ := okV_rp x h'.1
    obtain ⟨ds, e2, g1, g2, g3⟩ := okVs_rp l h'.2
    refine ⟨d :: ds, by simp only [PV.rps, e1, e2], by simp only [PyData.depthAll, dpts, h1, g1], by simp only [PyData.showableAll, h2, g2, Bool.and_self], ?_⟩
    simp only [PyData.shownAll, wts, piled_cons]
    omega
end
theorem GV.repr {v : PV} {h : PH} (g : GV 60 16000000 v) : ∃ d, reprV [v] h = some (.rtx d, h) ∧ v.rp = some d := by
  obtain ⟨d, e, h1, h2, h3⟩ := okV_rp v g.ok
  refine ⟨d, ?_, e⟩
  show (match v.rp with
    | some d => if d.showable = true ∧ d.depth ≤ 60 ∧ d.shown.length ≤ sizeLine then some (PV.rtx d, h) else none
    | none => none) = _
  rw [e]
  have := g.dp
  have := g.wt
  exact if_pos ⟨h2, by omega, by rw [sizeLine_eq]; omega⟩
end Lt
namespace Lt
open PySem
theorem Ev.eq {α : Type} {m : Option α} {x : α} (a : Ev m (· = x)) : m = some x := by
  obtain ⟨y, e, rfl⟩ := a
  exact e
theorem eqV_rtx {d : PyData} : eqV (.rtx d) (.rtx d) = some true := by
  show some (decide (d.shown = d.shown)) = _
  simp
theorem rngL2 : rngL 0 2 = [.int 0, .int 1] := rfl
theorem gv_bl {b : Bool} : GV 0 5 (.bl b) := ⟨rfl, by simp [dpt], by simp [wt]⟩
end Lt

set_option maxRecDepth 100000
namespace k05
open Lt PySem
abbrev n_law : Nat := 0
abbrev n_u_law_keg : Nat := 1
abbrev n_u_law_sides : Nat := 2
abbrev n_u_law_choices : Nat := 3
abbrev n_u_law_tap : Nat := 4
abbrev n_u_law_choice : Nat := 5
abbrev n_u_law_frame_of : Nat := 6
abbrev n_Frame_init : Nat := 7
abbrev n_lengths_of : Nat := 8
abbrev n_are_frame : Nat := 9
abbrev n_are_names : Nat := 10
abbrev n_is_name : Nat := 11
abbrev n_is_array : Nat := 12
abbrev n_u_law_own_names : Nat := 13
abbrev n_u_law_all_names : Nat := 14
abbrev n_u_law_claim : Nat := 15
abbrev n_u_law_body : Nat := 16
abbrev n_u_law_worth : Nat := 17
abbrev n_u_law_place : Nat := 18
abbrev n_u_law_number : Nat := 19
abbrev n_u_law_place_names : Nat := 20
abbrev n_u_law_guard : Nat := 21
abbrev n_u_law_limits_right : Nat := 22
abbrev n_u_law_deep : Nat := 23
abbrev n_is_claim : Nat := 24
abbrev n_require_frame : Nat := 25
abbrev n_is_claim_for : Nat := 26
abbrev n_is_claim_in : Nat := 27
abbrev n_is_joined : Nat := 28
abbrev n_has_shape : Nat := 29
abbrev n_is_all_in : Nat := 30
abbrev n_are_own : Nat := 31
abbrev n_Frame_is_fresh : Nat := 32
abbrev n_is_guard_in : Nat := 33
abbrev n_is_op : Nat := 34
abbrev n_is_guard_term : Nat := 35
abbrev n_is_position : Nat := 36
abbrev n_is_place_name : Nat := 37
abbrev n_has_kind : Nat := 38
abbrev n_Frame_contains : Nat := 39
abbrev n_is_integer : Nat := 40
abbrev n_is_body_in : Nat := 41
abbrev n_is_body_term : Nat := 42
abbrev n_is_value : Nat := 43
abbrev n_is_cell : Nat := 44
abbrev n_claim_depth : Nat := 45
abbrev n_require_both : Nat := 46
abbrev n_require_claim : Nat := 47
abbrev n_depth_of : Nat := 48
abbrev n_claim_parts : Nat := 49
abbrev n_u_law_all_judged : Nat := 50
abbrev n_u_law_is_claim : Nat := 51
abbrev n_u_law_are_joined : Nat := 52
abbrev n_u_law_starts : Nat := 53
abbrev n_u_law_is_op : Nat := 54
abbrev n_u_law_is_body : Nat := 55
abbrev n_u_law_is_worth : Nat := 56
abbrev n_u_law_is_whole : Nat := 57
abbrev n_u_law_is_place : Nat := 58
abbrev n_u_law_are_own : Nat := 59
abbrev n_u_law_is_guard : Nat := 60
abbrev n_is_guard : Nat := 61
abbrev n_require_own : Nat := 62
abbrev n_is_body : Nat := 63
abbrev n_u_law_bent : Nat := 64
abbrev n_u_law_odd : Nat := 65
def b_law (cf : Nat → XC) : XS :=
      (sSq (sFo (.name 1) (iR1 (xCall (biV .max) (aC (xC (.int 1)) (aC (xCall (biV .min) (aC (xC (.int 5)) (aC (xCall (biV .len) (aC (xV 0) aN)) aN))) aN)))) (sSq (sSt 2 (xCall (cf n_u_law_keg) (aC (xV 0) (aC (xV 1) aN))))
      (sSq (sSt 3 (xCall (cf n_u_law_sides) (aC (xV 2) (aC (xC (.int 3)) aN))))
      (sSq (sP2 6 7 (aC (xCall (cf n_u_law_frame_of) (aC (xV 3) aN)) (aC (xCall (cf n_u_law_own_names) (aC (xV 2) (aC (xV 3) aN))) aN)))
      (sSq (sSt 4 (xLst false (aC (xCall (cf n_u_law_claim) (aC (xV 2) (aC (xV 3) (aC (xC (.int 3)) aN)))) (aC (xCall (cf n_u_law_guard) (aC (xV 2) (aC (xV 3) (aC (xV 7) (aC (xC (.int 3)) aN))))) (aC (xCall (cf n_u_law_body) (aC (xV 2) (aC (xV 3) (aC (xV 7) (aC (xC (.int 3)) aN))))) aN)))))
      (sSq (sFo (.name 5) (iSq (xOp .add (xV 4) (xLst false (aC (xCall (cf n_u_law_claim) (aC (xV 2) (aC (xV 3) (aC (xC (.int 3)) aN)))) aN)))) (sSq (sIf (tNt (tTr (xCall (cf n_u_law_all_judged) (aC (xV 3) (aC (xV 6) (aC (xV 7) (aC (xV 5) aN))))))) (sRt (xC (.bl false))) sNx)
      (sFo (.name 8) (iR1 (xC (.int 7))) (sSq (sSt 9 (xCall (cf n_u_law_bent) (aC (xV 2) (aC (xV 3) (aC (xV 5) (aC (xC (.int 6)) aN))))))
      (sSq (sIf (tBo true (tTr (xCmp .gt (xV 8) (xC (.int 4)))) (tB1 true (tTr (xIsi "tuple" (xV 9))))) (sSt 9 (xCall (cf n_u_law_bent) (aC (xV 2) (aC (xV 3) (aC (xV 9) (aC (xC (.int 3)) aN)))))) sNx)
      (sIf (tNt (tTr (xCall (cf n_u_law_all_judged) (aC (xV 3) (aC (xV 6) (aC (xV 7) (aC (xV 9) aN))))))) (sRt (xC (.bl false))) sNx))))))
      (sIf (tNt (tTr (xCall (cf n_u_law_limits_right) (aC (xV 2) (aC (xV 3) (aC (xV 6) aN)))))) (sRt (xC (.bl false))) sNx)))))))
      (sRt (xC (.bl true))))
def d_law : FnS := ⟨1, [], 10, true, b_law⟩
def b_u_law_keg (cf : Nat → XC) : XS :=
      (sSq (sSt 2 (xIf (tTr (xCmp .lt (xV 1) (xCall (biV .len) (aC (xV 0) aN)))) (xIx (xV 0) (xV 1)) (xOp .add (xOp .mul (xC (.int 61)) (xV 1)) (xC (.int 37)))))
      (sSq (sSt 3 (xOp .mod (xCall (biV .int) (aC (xCall (biV .abs) (aC (xV 2) aN)) aN)) (xOp .pow (xOp .pow (xC (.int 10)) (xC (.int 60))) (xC (.int 8)))))
      (sSq (sSt 4 (xOp .mod (xCall (biV .int) (aC (xOp .add (xOp .add (xOp .add (xV 3) (xOp .mul (xC (.int 6700417)) (xV 1))) (xOp .mul (xC (.int 67867967)) (xCall (biV .int) (aC (xCmp .lt (xV 2) (xC (.int 0))) aN)))) (xC (.int 7))) aN)) (xOp .add (xOp .pow (xC (.int 10)) (xC (.int 18))) (xC (.int 9)))))
      (sRt (xLst true (aC (xIf (tTr (xCmp .gt (xV 3) (xOp .pow (xC (.int 10)) (xC (.int 18))))) (xOp .sub (xV 3) (xOp .pow (xC (.int 10)) (xC (.int 18)))) (xC (.int 0))) (aC (xV 4) (aC (xC (.int 0)) aN))))))))
def d_u_law_keg : FnS := ⟨2, [], 5, false, b_u_law_keg⟩
def b_u_law_sides (cf : Nat → XC) : XS :=
      (sSq (sSt 2 (xCall (cf n_u_law_choices) (aC (xV 0) (aC (xLst false (aC (xC (.str [97])) (aC (xC (.str [98])) (aC (xC (.str [110])) (aC (xC (.str [109])) (aC (xC (.str [105])) (aC (xC (.str [106])) (aC (xC (.str [107])) (aC (xC (.str [120])) (aC (xC (.str [97, 108, 108])) (aC (xC (.str [97, 110, 100])) (aC (xC (.str [112, 111, 115])) (aC (xC (.str [107, 107])) (aC (xC (.str [114, 111, 119, 114, 111, 119, 114, 111])) (aC (xC (.str [118])) aN))))))))))))))) (aC (xC (.int 14)) aN)))))
      (sSq (sTu [5, 6] (xTup (aC (xCall (cf n_u_law_tap) (aC (xV 0) (aC (xOp .add (xV 1) (xC (.int 1))) aN))) (aC (xSl true false (xV 2) (xC .non) (xOp .add (xC (.int 1)) (xCall (cf n_u_law_tap) (aC (xV 0) (aC (xC (.int 2)) aN))))) aN))))
      (sSq (sSt 3 (xCall (ptupV) (aC (lcV false (.name 7) (iR1 (xV 5)) tYe (xTup (aC (xIx (xV 2) (xOp .add (xC (.int 3)) (xV 7))) (aC (xCall (cf n_u_law_choice) (aC (xV 0) (aC (xV 6) aN))) aN)))) aN)))
      (sSq (sSt 4 (xCall (biV .tuple) (aC (xSl false false (xV 2) (xC (.int 6)) (xOp .add (xC (.int 6)) (xCall (cf n_u_law_tap) (aC (xV 0) (aC (xOp .add (xV 1) (xC (.int 1))) aN))))) aN)))
      (sRt (xLst false (aC (xV 3) (aC (xV 4) (aC (xCall (biV .tuple) (aC (xSl false false (xV 2) (xC (.int 9)) (xOp .add (xC (.int 9)) (xCall (cf n_u_law_tap) (aC (xV 0) (aC (xOp .add (xV 1) (xC (.int 1))) aN))))) aN)) aN)))))))))
def d_u_law_sides : FnS := ⟨2, [], 8, true, b_u_law_sides⟩
def b_u_law_choices (cf : Nat → XC) : XS :=
      (sSq (sP2 4 5 (aC (xCall (listV true) (aC (xV 1) aN)) (aC (xLst true aN) aN)))
      (sSq (sFo (.name 3) (iR1 (xCall (biV .min) (aC (xV 2) (aC (xCall (biV .len) (aC (xV 1) aN)) aN)))) (sEx (xMe .append (xV 5) (aC (xMe .popAt (xV 4) (aC (xCall (cf n_u_law_tap) (aC (xV 0) (aC (xCall (biV .len) (aC (xV 4) aN)) aN))) aN)) aN))))
      (sRt (xV 5))))
def d_u_law_choices : FnS := ⟨3, [], 6, true, b_u_law_choices⟩
def b_u_law_tap (cf : Nat → XC) : XS :=
      (sSq (sIf (tTr (xCmp .gt (xIx (xV 0) (xC (.int 0))) (xC (.int 0)))) (sSq (sSt 5 (xOp .mod (xCall (biV .int) (aC (xIx (xV 0) (xC (.int 0))) aN)) (xV 1)))
      (sSq (sIx (xV 0) (xC (.int 0)) (xOp .fdiv (xIx (xV 0) (xC (.int 0))) (xV 1)))
      (sRt (xV 5)))) sNx)
      (sSq (sIx (xV 0) (xC (.int 2)) (xOp .add (xIx (xV 0) (xC (.int 2))) (xC (.int 1))))
      (sSq (sSt 2 (xOp .mod (xCall (biV .int) (aC (xOp .add (xIx (xV 0) (xC (.int 1))) (xOp .mul (xC (.int 1181783497)) (xIx (xV 0) (xC (.int 2))))) aN)) (xC (.int 2147483587))))
      (sSq (sSt 3 (xOp .mod (xCall (biV .int) (aC (xOp .add (xOp .add (xOp .mul (xV 2) (xV 2)) (xOp .fdiv (xIx (xV 0) (xC (.int 1))) (xC (.int 1000003)))) (xOp .mul (xC (.int 7207)) (xIx (xV 0) (xC (.int 2))))) aN)) (xC (.int 1000000009))))
      (sSq (sSt 4 (xOp .mod (xCall (biV .int) (aC (xOp .add (xOp .mul (xV 3) (xV 3)) (xV 2)) aN)) (xC (.int 999999937))))
      (sRt (xOp .mod (xCall (biV .int) (aC (xOp .fdiv (xV 4) (xC (.int 64))) aN)) (xV 1))))))))
def d_u_law_tap : FnS := ⟨2, [], 6, true, b_u_law_tap⟩
def b_u_law_choice (cf : Nat → XC) : XS :=
      (sRt (xIx (xV 1) (xCall (cf n_u_law_tap) (aC (xV 0) (aC (xCall (biV .len) (aC (xV 1) aN)) aN)))))
def d_u_law_choice : FnS := ⟨2, [], 2, true, b_u_law_choice⟩
def b_u_law_frame_of (cf : Nat → XC) : XS :=
      (sRt (xCall (mkV true 0 (cf n_Frame_init)) (aC (xWk (xIx (xV 0) (xC (.int 0)))) (aC (xIx (xV 0) (xC (.int 1))) (aC (xIx (xV 0) (xC (.int 2))) aN)))))
def d_u_law_frame_of : FnS := ⟨1, [], 1, true, b_u_law_frame_of⟩
def b_Frame_init (cf : Nat → XC) : XS :=
      (sSq (sIf (tNt (tTr (xCall (cf n_are_frame) (aC (xV 1) (aC (xV 2) (aC (xV 3) aN)))))) sNo sNx)
      (sSq (sFl 0 0 (xV 0) (xV 1))
      (sSq (sFl 0 2 (xV 0) (dcV false (.tup [4, 5]) (iSq (xV 1)) (xV 4) (xV 5)))
      (sSq (sFl 0 3 (xV 0) (xCall (cf n_lengths_of) (aC (xV 1) aN)))
      (sSq (sFl 0 4 (xV 0) (xV 2))
      (sSq (sFl 0 5 (xV 0) (xV 3))
      (sFl 0 1 (xV 0) (xDs false [(dcV false (.name 4) (dwV .keys (xFld 0 2 (xV 0))) (xV 4) (xC (.str [97, 114, 114, 97, 121]))), (dcV false (.name 4) (iSq (xFld 0 3 (xV 0))) (xV 4) (xC (.str [108, 101, 110, 103, 116, 104]))), (dcV false (.name 4) (iSq (xV 2)) (xV 4) (xC (.str [112, 111, 115, 105, 116, 105, 111, 110]))), (dcV false (.name 4) (iSq (xV 3)) (xV 4) (xC (.str [118, 97, 108, 117, 101])))]))))))))
def d_Frame_init : FnS := ⟨4, [], 6, true, b_Frame_init⟩
def b_lengths_of (cf : Nat → XC) : XS :=
      (sRt (xCall (biV .tuple) (aC (xCall (listV false) (aC (dcV false (.tup [1, 2]) (iSq (xV 0)) (xV 2) (xC (.bl true))) aN)) aN)))
def d_lengths_of : FnS := ⟨1, [], 3, true, b_lengths_of⟩
def b_are_frame (cf : Nat → XC) : XS :=
      (sSq (sIf (tBo false (tNt (tTr (xIsi "tuple" (xV 0)))) (tBo false (tTr (xCmp .gt (xCall (biV .len) (aC (xV 0) aN)) (xC (.int 12)))) (tB1 false (tNt (tTr (xCall (biV .all) (aC (lcV false (.name 4) (iSq (xV 0)) tYe (xCall (cf n_is_array) (aC (xV 4) aN))) aN))))))) (sRt (xC (.bl false))) sNx)
      (sSq (sIf (tBo false (tNt (tTr (xCall (cf n_are_names) (aC (xV 1) (aC (xC (.int 6)) aN))))) (tB1 false (tNt (tTr (xCall (cf n_are_names) (aC (xV 2) (aC (xC (.int 6)) aN))))))) (sRt (xC (.bl false))) sNx)
      (sSq (sSt 3 (xLst false (aS (lcV false (.tup [5, 6]) (iSq (xV 0)) tYe (xV 5)) (aS (xCall (cf n_lengths_of) (aC (xV 0) aN)) (aS (xV 1) (aS (xV 2) aN))))))
      (sRt (xCmp .eq (xLenSet (xV 3)) (xCall (biV .len) (aC (xV 3) aN)))))))
def d_are_frame : FnS := ⟨3, [], 7, true, b_are_frame⟩
def b_are_names (cf : Nat → XC) : XS :=
      (sRt (xBo true (xIsi "tuple" (xV 0)) (xBo true (xCmp .le (xCall (biV .len) (aC (xV 0) aN)) (xV 1)) (xCall (biV .all) (aC (lcV false (.name 2) (iSq (xV 0)) tYe (xCall (cf n_is_name) (aC (xV 2) aN))) aN)))))
def d_are_names : FnS := ⟨2, [], 3, true, b_are_names⟩
def b_is_name (cf : Nat → XC) : XS :=
      (sRt (xBo true (xIsi "str" (xV 0)) (xBo true (xChain .le .le (xC (.int 1)) (xCall (biV .len) (aC (xV 0) aN)) (xC (.int 8))) (xCall (biV .all) (aC (lcV false (.name 1) (iSq (xV 0)) tYe (xCmp .in_ (xV 1) (xC (.str [97, 98, 99, 100, 101, 102, 103, 104, 105, 106, 107, 108, 109, 110, 111, 112, 113, 114, 115, 116, 117, 118, 119, 120, 121, 122])))) aN)))))
def d_is_name : FnS := ⟨1, [], 2, true, b_is_name⟩
def b_is_array (cf : Nat → XC) : XS :=
      (sRt (xBo true (xIsi "tuple" (xV 0)) (xBo true (xCmp .eq (xCall (biV .len) (aC (xV 0) aN)) (xC (.int 2))) (xBo true (xCall (cf n_is_name) (aC (xIx (xV 0) (xC (.int 0))) aN)) (xCall (cf n_is_name) (aC (xIx (xV 0) (xC (.int 1))) aN))))))
def d_is_array : FnS := ⟨1, [], 1, true, b_is_array⟩
def b_u_law_own_names (cf : Nat → XC) : XS :=
      (sSq (sSt 2 (lcV false (.name 3) (iSq (xLst false (aC (xC (.str [107])) (aC (xC (.str [107, 107])) (aC (xC (.str [106])) (aC (xC (.str [122])) (aC (xC (.str [111, 119, 110])) (aC (xC (.str [110, 111, 116])) (aC (xC (.str [105])) aN))))))))) (tTr (xCmp .notIn (xV 3) (xCall (cf n_u_law_all_names) (aC (xV 1) aN)))) (xV 3)))
      (sRt (xCall (biV .tuple) (aC (xCall (cf n_u_law_choices) (aC (xV 0) (aC (xV 2) (aC (xOp .add (xC (.int 1)) (xCall (cf n_u_law_tap) (aC (xV 0) (aC (xC (.int 2)) aN)))) aN)))) aN))))
def d_u_law_own_names : FnS := ⟨2, [], 4, true, b_u_law_own_names⟩
def b_u_law_all_names (cf : Nat → XC) : XS :=
      (sRt (xOp .add (xOp .add (xOp .add (lcV false (.name 1) (iSq (xWk (xIx (xV 0) (xC (.int 0))))) tYe (xIx (xV 1) (xC (.int 0)))) (lcV false (.name 1) (iSq (xWk (xIx (xV 0) (xC (.int 0))))) tYe (xIx (xV 1) (xC (.int 1))))) (xCall (listV false) (aC (xIx (xV 0) (xC (.int 1))) aN))) (xCall (listV false) (aC (xIx (xV 0) (xC (.int 2))) aN))))
def d_u_law_all_names : FnS := ⟨1, [], 2, true, b_u_law_all_names⟩
def b_u_law_claim (cf : Nat → XC) : XS :=
      (sSq (sSt 3 (xIf (tTr (xCmp .gt (xV 2) (xC (.int 1)))) (xCall (cf n_u_law_tap) (aC (xV 0) (aC (xC (.int 9)) aN))) (xCall (cf n_u_law_tap) (aC (xV 0) (aC (xC (.int 3)) aN)))))
      (sSq (sIf (tTr (xCmp .eq (xV 3) (xC (.int 0)))) (sSq (sSt 5 (xCall (cf n_u_law_choice) (aC (xV 0) (aC (xLst false (aC (xC (.str [60, 61])) (aC (xC (.str [60])) (aC (xC (.str [61, 61])) aN)))) aN))))
      (sRt (xTup (aC (xC (.str [112, 111, 115])) (aC (xV 5) (aC (xCall (cf n_u_law_place) (aC (xV 0) (aC (xV 1) aN))) (aC (xCall (cf n_u_law_place) (aC (xV 0) (aC (xV 1) aN))) aN))))))) sNx)
      (sSq (sIf (tTr (xCmp .lt (xV 3) (xC (.int 3)))) (sRt (xCall (cf n_u_law_body) (aC (xV 0) (aC (xV 1) (aC (xTup aN) (aC (xC (.int 1)) aN)))))) sNx)
      (sSq (sIf (tTr (xCmp .eq (xV 3) (xC (.int 3)))) (sRt (xTup (aC (xC (.str [110, 111, 116])) (aC (xCall (cf n_u_law_claim) (aC (xV 0) (aC (xV 1) (aC (xOp .sub (xV 2) (xC (.int 1))) aN)))) aN)))) sNx)
      (sSq (sIf (tTr (xCmp .lt (xV 3) (xC (.int 6)))) (sSq (sSt 6 (lcV false (.name 7) (iR1 (xCall (cf n_u_law_tap) (aC (xV 0) (aC (xC (.int 4)) aN)))) tYe (xCall (cf n_u_law_claim) (aC (xV 0) (aC (xV 1) (aC (xOp .sub (xV 2) (xC (.int 1))) aN))))))
      (sRt (xTup (aC (xCall (cf n_u_law_choice) (aC (xV 0) (aC (xLst false (aC (xC (.str [97, 110, 100])) (aC (xC (.str [111, 114])) aN))) aN))) (aC (xCall (biV .tuple) (aC (xV 6) aN)) aN))))) sNx)
      (sSq (sSt 4 (xCall (cf n_u_law_own_names) (aC (xV 0) (aC (xV 1) aN))))
      (sRt (xTup (aC (xC (.str [97, 108, 108])) (aC (xV 4) (aC (xCall (cf n_u_law_guard) (aC (xV 0) (aC (xV 1) (aC (xV 4) (aC (xOp .sub (xV 2) (xC (.int 1))) aN))))) (aC (xCall (cf n_u_law_body) (aC (xV 0) (aC (xV 1) (aC (xV 4) (aC (xOp .sub (xV 2) (xC (.int 1))) aN))))) aN))))))))))))
def d_u_law_claim : FnS := ⟨3, [], 8, true, b_u_law_claim⟩
def b_u_law_body (cf : Nat → XC) : XS :=
      (sSq (sSt 4 (xIf (tTr (xCmp .gt (xV 3) (xC (.int 1)))) (xCall (cf n_u_law_tap) (aC (xV 0) (aC (xC (.int 5)) aN))) (xC (.int 0))))
      (sSq (sIf (tTr (xCmp .eq (xV 4) (xC (.int 3)))) (sRt (xTup (aC (xC (.str [110, 111, 116])) (aC (xCall (cf n_u_law_body) (aC (xV 0) (aC (xV 1) (aC (xV 2) (aC (xOp .sub (xV 3) (xC (.int 1))) aN))))) aN)))) sNx)
      (sSq (sIf (tTr (xCmp .eq (xV 4) (xC (.int 4)))) (sSq (sSt 6 (lcV false (.name 7) (iR1 (xCall (cf n_u_law_tap) (aC (xV 0) (aC (xC (.int 4)) aN)))) tYe (xCall (cf n_u_law_body) (aC (xV 0) (aC (xV 1) (aC (xV 2) (aC (xOp .sub (xV 3) (xC (.int 1))) aN)))))))
      (sRt (xTup (aC (xCall (cf n_u_law_choice) (aC (xV 0) (aC (xLst false (aC (xC (.str [97, 110, 100])) (aC (xC (.str [111, 114])) aN))) aN))) (aC (xCall (biV .tuple) (aC (xV 6) aN)) aN))))) sNx)
      (sSq (sSt 5 (xCall (cf n_u_law_choice) (aC (xV 0) (aC (xLst false (aC (xC (.str [60, 61])) (aC (xC (.str [60])) (aC (xC (.str [61, 61])) aN)))) aN))))
      (sRt (xTup (aC (xC (.str [118, 97, 108])) (aC (xV 5) (aC (xCall (cf n_u_law_worth) (aC (xV 0) (aC (xV 1) (aC (xV 2) aN)))) (aC (xCall (cf n_u_law_worth) (aC (xV 0) (aC (xV 1) (aC (xV 2) aN)))) aN))))))))))
def d_u_law_body : FnS := ⟨4, [], 8, true, b_u_law_body⟩
def b_u_law_worth (cf : Nat → XC) : XS :=
      (sSq (sSt 3 (xCall (cf n_u_law_tap) (aC (xV 0) (aC (xC (.int 4)) aN))))
      (sSq (sIf (tBo false (tTr (xCmp .eq (xV 3) (xC (.int 0)))) (tB1 false (tBo true (tTr (xCmp .eq (xWk (xIx (xV 1) (xC (.int 0)))) (xTup aN))) (tB1 true (tTr (xCmp .eq (xV 3) (xC (.int 1)))))))) (sRt (xTup (aC (xC (.str [])) (aC (xCall (cf n_u_law_number) (aC (xV 0) aN)) aN)))) sNx)
      (sSq (sIf (tBo false (tTr (xCmp .eq (xV 3) (xC (.int 1)))) (tB1 false (tTr (xCmp .eq (xWk (xIx (xV 1) (xC (.int 0)))) (xTup aN))))) (sRt (xTup (aC (xCall (cf n_u_law_choice) (aC (xV 0) (aC (xOp .add (xLst false (aC (xC (.str [])) aN)) (xCall (listV false) (aC (xIx (xV 1) (xC (.int 2))) aN))) aN))) (aC (xCall (cf n_u_law_number) (aC (xV 0) aN)) aN)))) sNx)
      (sSq (sP2 4 5 (aC (xIx (xCall (cf n_u_law_choice) (aC (xV 0) (aC (xWk (xIx (xV 1) (xC (.int 0)))) aN))) (xC (.int 0))) (aC (xCall (cf n_u_law_place) (aC (xV 0) (aC (xV 1) aN))) aN)))
      (sSq (sIf (tBo true (tTr (xCmp .ne (xV 2) (xTup aN))) (tB1 true (tTr (xCmp .eq (xV 3) (xC (.int 2)))))) (sSt 5 (xTup (aC (xCall (cf n_u_law_choice) (aC (xV 0) (aC (xV 2) aN))) (aC (xC (.int 0)) aN)))) sNx)
      (sRt (xTup (aC (xV 4) (aC (xIx (xV 5) (xC (.int 0))) (aC (xIx (xV 5) (xC (.int 1))) (aC (xCall (cf n_u_law_number) (aC (xV 0) aN)) aN)))))))))))
def d_u_law_worth : FnS := ⟨3, [], 6, true, b_u_law_worth⟩
def b_u_law_place (cf : Nat → XC) : XS :=
      (sRt (xTup (aC (xCall (cf n_u_law_choice) (aC (xV 0) (aC (xCall (cf n_u_law_place_names) (aC (xV 1) aN)) aN))) (aC (xCall (cf n_u_law_number) (aC (xV 0) aN)) aN))))
def d_u_law_place : FnS := ⟨2, [], 2, true, b_u_law_place⟩
def b_u_law_number (cf : Nat → XC) : XS :=
      (sRt (xCall (cf n_u_law_choice) (aC (xV 0) (aC (xLst false (aC (xC (.int 0)) (aC (xC (.int 0)) (aC (xC (.int 1)) (aC (xNeg (xC (.int 1))) (aC (xC (.int 2)) (aC (xNeg (xC (.int 2))) (aC (xC (.int 3)) (aC (xOp .pow (xC (.int 10)) (xC (.int 20))) (aC (xC (.int 0)) (aC (xC (.int 1)) aN))))))))))) aN))))
def d_u_law_number : FnS := ⟨1, [], 1, true, b_u_law_number⟩
def b_u_law_place_names (cf : Nat → XC) : XS :=
      (sRt (xOp .add (xOp .add (xLst false (aC (xC (.str [])) aN)) (xCall (listV false) (aC (xIx (xV 0) (xC (.int 1))) aN))) (xSortSet (lcV false (.name 1) (iSq (xWk (xIx (xV 0) (xC (.int 0))))) tYe (xIx (xV 1) (xC (.int 1)))))))
def d_u_law_place_names : FnS := ⟨1, [], 2, true, b_u_law_place_names⟩
def b_u_law_guard (cf : Nat → XC) : XS :=
      (sSq (sIf (tBo true (tTr (xCmp .gt (xV 3) (xC (.int 1)))) (tB1 true (tTr (xCmp .eq (xCall (cf n_u_law_tap) (aC (xV 0) (aC (xC (.int 2)) aN))) (xC (.int 0)))))) (sSq (sSt 5 (lcV false (.name 8) (iR1 (xCall (cf n_u_law_tap) (aC (xV 0) (aC (xC (.int 4)) aN)))) tYe (xCall (cf n_u_law_guard) (aC (xV 0) (aC (xV 1) (aC (xV 2) (aC (xOp .sub (xV 3) (xC (.int 1))) aN)))))))
      (sRt (xTup (aC (xCall (cf n_u_law_choice) (aC (xV 0) (aC (xLst false (aC (xC (.str [97, 110, 100])) (aC (xC (.str [97, 110, 100])) (aC (xC (.str [111, 114])) aN)))) aN))) (aC (xCall (biV .tuple) (aC (xV 5) aN)) aN))))) sNx)
      (sSq (sP2 6 7 (aC (xTup (aC (xCall (cf n_u_law_choice) (aC (xV 0) (aC (xV 2) aN))) (aC (xC (.int 0)) aN))) (aC (xCall (cf n_u_law_place) (aC (xV 0) (aC (xV 1) aN))) aN)))
      (sSq (sIf (tBo true (tTr (xCmp .gt (xCall (biV .len) (aC (xV 2) aN)) (xC (.int 1)))) (tB1 true (tTr (xCmp .eq (xCall (cf n_u_law_tap) (aC (xV 0) (aC (xC (.int 3)) aN))) (xC (.int 0)))))) (sSt 7 (xTup (aC (xCall (cf n_u_law_choice) (aC (xV 0) (aC (xV 2) aN))) (aC (xC (.int 0)) aN)))) sNx)
      (sSq (sSt 4 (xIf (tTr (xCmp .eq (xCall (cf n_u_law_tap) (aC (xV 0) (aC (xC (.int 2)) aN))) (xC (.int 0)))) (xTup (aC (xV 6) (aC (xV 7) aN))) (xTup (aC (xV 7) (aC (xV 6) aN)))))
      (sRt (xOp .add (xTup (aC (xC (.str [112, 111, 115])) (aC (xCall (cf n_u_law_choice) (aC (xV 0) (aC (xLst false (aC (xC (.str [60, 61])) (aC (xC (.str [60, 61])) (aC (xC (.str [61, 61])) aN)))) aN))) aN))) (xV 4)))))))
def d_u_law_guard : FnS := ⟨4, [], 9, true, b_u_law_guard⟩
def b_u_law_limits_right (cf : Nat → XC) : XS :=
      (sSq (sSt 3 (xCall (cf n_u_law_claim) (aC (xV 0) (aC (xV 1) (aC (xC (.int 1)) aN)))))
      (sSq (sFo (.name 4) (iR1 (xC (.int 11))) (sSq (sSt 7 (xCall (cf n_u_law_claim) (aC (xV 0) (aC (xV 1) (aC (xC (.int 1)) aN)))))
      (sSt 3 (xCall (cf n_u_law_choice) (aC (xV 0) (aC (xLst false (aC (xTup (aC (xC (.str [110, 111, 116])) (aC (xV 3) aN))) (aC (xTup (aC (xC (.str [97, 110, 100])) (aC (xTup (aC (xV 7) (aC (xV 3) aN))) aN))) (aC (xTup (aC (xC (.str [111, 114])) (aC (xTup (aC (xV 3) aN)) aN))) (aC (xTup (aC (xC (.str [97, 110, 100])) (aC (xTup (aC (xV 3) (aC (xV 7) aN))) aN))) aN))))) aN))))))
      (sSq (sIf (tTr (xCmp .ne (xLst false (aC (xCall (cf n_u_law_deep) (aC (xV 3) aN)) (aC (xCall (cf n_is_claim) (aC (xV 2) (aC (xV 3) aN))) (aC (xCall (cf n_claim_depth) (aC (xV 2) (aC (xV 3) aN))) aN)))) (xLst false (aC (xC (.int 12)) (aC (xC (.bl true)) (aC (xC (.int 12)) aN)))))) (sRt (xC (.bl false))) sNx)
      (sSq (sSt 5 (xTup (aC (xC (.str [118, 97, 108])) (aC (xC (.str [60, 61])) (aC (xTup (aC (xC (.str [])) (aC (xC (.int 0)) aN))) (aC (xTup (aC (xC (.str [])) (aC (xC (.int 1)) aN))) aN))))))
      (sSq (sFo (.name 4) (iR1 (xC (.int 10))) (sSt 5 (xCall (cf n_u_law_choice) (aC (xV 0) (aC (xLst false (aC (xTup (aC (xC (.str [110, 111, 116])) (aC (xV 5) aN))) (aC (xTup (aC (xC (.str [97, 110, 100])) (aC (xTup (aC (xV 5) aN)) aN))) (aC (xTup (aC (xC (.str [111, 114])) (aC (xTup (aC (xV 5) (aC (xV 5) aN))) aN))) aN)))) aN)))))
      (sSq (sSt 6 (xTup (aC (xC (.str [97, 108, 108])) (aC (xTup (aC (xC (.str [111, 119, 110])) aN)) (aC (xTup (aC (xC (.str [97, 110, 100])) (aC (xTup aN) aN))) (aC (xV 5) aN))))))
      (sRt (xCmp .eq (xLst false (aC (xCall (cf n_is_claim) (aC (xV 2) (aC (xV 6) aN))) (aC (xCall (cf n_claim_depth) (aC (xV 2) (aC (xV 6) aN))) aN))) (xLst false (aC (xC (.bl true)) (aC (xC (.int 12)) aN)))))))))))
def d_u_law_limits_right : FnS := ⟨3, [], 8, true, b_u_law_limits_right⟩
def b_u_law_deep (cf : Nat → XC) : XS :=
      (sSq (sIf (tTr (xCmp .in_ (xIx (xV 0) (xC (.int 0))) (xLst false (aC (xC (.str [112, 111, 115])) (aC (xC (.str [118, 97, 108])) aN))))) (sRt (xC (.int 1))) sNx)
      (sSq (sSt 1 (xIf (tTr (xCmp .eq (xIx (xV 0) (xC (.int 0))) (xC (.str [110, 111, 116])))) (xLst false (aC (xIx (xV 0) (xC (.int 1))) aN)) (xIf (tTr (xCmp .eq (xIx (xV 0) (xC (.int 0))) (xC (.str [97, 108, 108])))) (xCall (listV false) (aC (xSl false true (xV 0) (xC (.int 2)) (xC .non)) aN)) (xCall (listV false) (aC (xIx (xV 0) (xC (.int 1))) aN)))))
      (sRt (xOp .add (xC (.int 1)) (xCall (biV .max) (aC (xOp .add (xLst false (aC (xC (.int 0)) aN)) (lcV false (.name 2) (iSq (xV 1)) tYe (xCall (cf n_u_law_deep) (aC (xV 2) aN)))) aN))))))
def d_u_law_deep : FnS := ⟨1, [], 3, true, b_u_law_deep⟩
def b_is_claim (cf : Nat → XC) : XS :=
      (sSq (sEx (xCall (cf n_require_frame) (aC (xV 0) aN)))
      (sRt (xCall (cf n_is_claim_for) (aC (xV 0) (aC (xV 1) aN)))))
def d_is_claim : FnS := ⟨2, [], 2, true, b_is_claim⟩
def b_require_frame (cf : Nat → XC) : XS :=
      (sIf (tNt (tTr (xIsO 0 (xV 0)))) sNo sNx)
def d_require_frame : FnS := ⟨1, [], 1, true, b_require_frame⟩
def b_is_claim_for (cf : Nat → XC) : XS :=
      (sRt (xCall (cf n_is_claim_in) (aC (xV 0) (aC (xV 1) (aC (xC (.int 12)) aN)))))
def d_is_claim_for : FnS := ⟨2, [], 2, true, b_is_claim_for⟩
def b_is_claim_in (cf : Nat → XC) : XS :=
      (sSq (sIf (tTr (xCmp .eq (xV 2) (xC (.int 0)))) (sRt (xC (.bl false))) sNx)
      (sSq (sIf (tTr (xCall (cf n_is_joined) (aC (xV 1) aN))) (sRt (xCall (biV .all) (aC (lcV false (.name 3) (iSq (xIx (xV 1) (xC (.int 1)))) tYe (xCall (cf n_is_claim_in) (aC (xV 0) (aC (xV 3) (aC (xOp .sub (xV 2) (xC (.int 1))) aN))))) aN))) sNx)
      (sSq (sIf (tTr (xCall (cf n_has_shape) (aC (xV 1) (aC (xC (.str [110, 111, 116])) (aC (xC (.int 2)) aN))))) (sRt (xCall (cf n_is_claim_in) (aC (xV 0) (aC (xIx (xV 1) (xC (.int 1))) (aC (xOp .sub (xV 2) (xC (.int 1))) aN))))) sNx)
      (sSq (sIf (tTr (xCall (cf n_has_shape) (aC (xV 1) (aC (xC (.str [97, 108, 108])) (aC (xC (.int 4)) aN))))) (sRt (xCall (cf n_is_all_in) (aC (xV 0) (aC (xV 1) (aC (xV 2) aN))))) sNx)
      (sSq (sIf (tTr (xCall (cf n_has_shape) (aC (xV 1) (aC (xC (.str [112, 111, 115])) (aC (xC (.int 4)) aN))))) (sRt (xBo true (xCall (cf n_is_op) (aC (xIx (xV 1) (xC (.int 1))) (aC (xC (.tup [.str [60, 61], .str [60], .str [61, 61]])) aN))) (xBo true (xCall (cf n_is_position) (aC (xV 0) (aC (xIx (xV 1) (xC (.int 2))) aN))) (xCall (cf n_is_position) (aC (xV 0) (aC (xIx (xV 1) (xC (.int 3))) aN)))))) sNx)
      (sSq (sIf (tTr (xCall (cf n_has_shape) (aC (xV 1) (aC (xC (.str [118, 97, 108])) (aC (xC (.int 4)) aN))))) (sRt (xBo true (xCall (cf n_is_op) (aC (xIx (xV 1) (xC (.int 1))) (aC (xC (.tup [.str [60, 61], .str [60], .str [61, 61]])) aN))) (xBo true (xCall (cf n_is_value) (aC (xV 0) (aC (xIx (xV 1) (xC (.int 2))) aN))) (xCall (cf n_is_value) (aC (xV 0) (aC (xIx (xV 1) (xC (.int 3))) aN)))))) sNx)
      (sRt (xC (.bl false)))))))))
def d_is_claim_in : FnS := ⟨3, [], 4, true, b_is_claim_in⟩
def b_is_joined (cf : Nat → XC) : XS :=
      (sRt (xBo true (xBo false (xCall (cf n_has_shape) (aC (xV 0) (aC (xC (.str [97, 110, 100])) (aC (xC (.int 2)) aN)))) (xCall (cf n_has_shape) (aC (xV 0) (aC (xC (.str [111, 114])) (aC (xC (.int 2)) aN))))) (xIsi "tuple" (xIx (xV 0) (xC (.int 1))))))
def d_is_joined : FnS := ⟨1, [], 1, true, b_is_joined⟩
def b_has_shape (cf : Nat → XC) : XS :=
      (sRt (xBo true (xIsi "tuple" (xV 0)) (xBo true (xCmp .eq (xCall (biV .len) (aC (xV 0) aN)) (xV 2)) (xBo true (xIsi "str" (xIx (xV 0) (xC (.int 0)))) (xCmp .eq (xIx (xV 0) (xC (.int 0))) (xV 1))))))
def d_has_shape : FnS := ⟨3, [], 3, true, b_has_shape⟩
def b_is_all_in (cf : Nat → XC) : XS :=
      (sSq (sSt 3 (xIx (xV 1) (xC (.int 1))))
      (sSq (sIf (tNt (tTr (xCall (cf n_are_own) (aC (xV 0) (aC (xV 3) aN))))) (sRt (xC (.bl false))) sNx)
      (sRt (xBo true (xCall (cf n_is_guard_in) (aC (xV 0) (aC (xV 3) (aC (xIx (xV 1) (xC (.int 2))) (aC (xOp .sub (xV 2) (xC (.int 1))) aN))))) (xCall (cf n_is_body_in) (aC (xV 0) (aC (xV 3) (aC (xIx (xV 1) (xC (.int 3))) (aC (xOp .sub (xV 2) (xC (.int 1))) aN)))))))))
def d_is_all_in : FnS := ⟨3, [], 4, true, b_is_all_in⟩
def b_are_own (cf : Nat → XC) : XS :=
      (sSq (sIf (tBo false (tNt (tTr (xIsi "tuple" (xV 1)))) (tB1 false (tNt (tTr (xChain .le .le (xC (.int 1)) (xCall (biV .len) (aC (xV 1) aN)) (xC (.int 2))))))) (sRt (xC (.bl false))) sNx)
      (sRt (xBo true (xCall (biV .all) (aC (lcV false (.name 2) (iSq (xV 1)) tYe (xMeth 0 (cf n_Frame_is_fresh) (xV 0) (aC (xV 2) aN))) aN)) (xCmp .eq (xLenSet (xV 1)) (xCall (biV .len) (aC (xV 1) aN))))))
def d_are_own : FnS := ⟨2, [], 3, true, b_are_own⟩
def b_Frame_is_fresh (cf : Nat → XC) : XS :=
      (sRt (xBo true (xCall (cf n_is_name) (aC (xV 1) aN)) (xCmp .notIn (xV 1) (xFld 0 1 (xV 0)))))
def d_Frame_is_fresh : FnS := ⟨2, [], 2, true, b_Frame_is_fresh⟩
def b_is_guard_in (cf : Nat → XC) : XS :=
      (sSq (sIf (tTr (xCmp .eq (xV 3) (xC (.int 0)))) (sRt (xC (.bl false))) sNx)
      (sSq (sIf (tTr (xCall (cf n_is_joined) (aC (xV 2) aN))) (sRt (xCall (biV .all) (aC (lcV false (.name 4) (iSq (xIx (xV 2) (xC (.int 1)))) tYe (xCall (cf n_is_guard_in) (aC (xV 0) (aC (xV 1) (aC (xV 4) (aC (xOp .sub (xV 3) (xC (.int 1))) aN)))))) aN))) sNx)
      (sSq (sIf (tBo false (tNt (tTr (xCall (cf n_has_shape) (aC (xV 2) (aC (xC (.str [112, 111, 115])) (aC (xC (.int 4)) aN)))))) (tB1 false (tNt (tTr (xCall (cf n_is_op) (aC (xIx (xV 2) (xC (.int 1))) (aC (xC (.tup [.str [60, 61], .str [61, 61]])) aN))))))) (sRt (xC (.bl false))) sNx)
      (sSq (sIf (tBo false (tNt (tTr (xCall (cf n_is_guard_term) (aC (xV 0) (aC (xV 1) (aC (xIx (xV 2) (xC (.int 2))) aN)))))) (tB1 false (tNt (tTr (xCall (cf n_is_guard_term) (aC (xV 0) (aC (xV 1) (aC (xIx (xV 2) (xC (.int 3))) aN)))))))) (sRt (xC (.bl false))) sNx)
      (sRt (xBo false (xCmp .in_ (xIx (xIx (xV 2) (xC (.int 2))) (xC (.int 0))) (xV 1)) (xCmp .in_ (xIx (xIx (xV 2) (xC (.int 3))) (xC (.int 0))) (xV 1))))))))
def d_is_guard_in : FnS := ⟨4, [], 5, true, b_is_guard_in⟩
def b_is_op (cf : Nat → XC) : XS :=
      (sRt (xBo true (xIsi "str" (xV 0)) (xCmp .in_ (xV 0) (xV 1))))
def d_is_op : FnS := ⟨2, [], 2, true, b_is_op⟩
def b_is_guard_term (cf : Nat → XC) : XS :=
      (sRt (xBo true (xCall (cf n_is_position) (aC (xV 0) (aC (xV 2) (aC (xV 1) aN)))) (xBo false (xCmp .notIn (xIx (xV 2) (xC (.int 0))) (xV 1)) (xCmp .eq (xIx (xV 2) (xC (.int 1))) (xC (.int 0))))))
def d_is_guard_term : FnS := ⟨3, [], 3, true, b_is_guard_term⟩
def b_is_position (cf : Nat → XC) : XS :=
      (sSq (sIf (tBo false (tNt (tTr (xIsi "tuple" (xV 1)))) (tB1 false (tTr (xCmp .ne (xCall (biV .len) (aC (xV 1) aN)) (xC (.int 2)))))) (sRt (xC (.bl false))) sNx)
      (sRt (xBo true (xCall (cf n_is_place_name) (aC (xV 0) (aC (xIx (xV 1) (xC (.int 0))) (aC (xV 2) aN)))) (xCall (cf n_is_integer) (aC (xIx (xV 1) (xC (.int 1))) aN)))))
def d_is_position : FnS := ⟨3, [.tup []], 3, true, b_is_position⟩
def b_is_place_name (cf : Nat → XC) : XS :=
      (sSq (sIf (tNt (tTr (xIsi "str" (xV 1)))) (sRt (xC (.bl false))) sNx)
      (sRt (xBo false (xCmp .eq (xV 1) (xC (.str []))) (xBo false (xCmp .in_ (xV 1) (xV 2)) (xBo false (xCall (cf n_has_kind) (aC (xV 0) (aC (xV 1) (aC (xC (.str [112, 111, 115, 105, 116, 105, 111, 110])) aN)))) (xCall (cf n_has_kind) (aC (xV 0) (aC (xV 1) (aC (xC (.str [108, 101, 110, 103, 116, 104])) aN)))))))))
def d_is_place_name : FnS := ⟨3, [], 3, true, b_is_place_name⟩
def b_has_kind (cf : Nat → XC) : XS :=
      (sRt (xBo true (xInO 0 (cf n_Frame_contains) false (xV 1) (xV 0)) (xCmp .eq (xIx (xFld 0 1 (xV 0)) (xV 1)) (xV 2))))
def d_has_kind : FnS := ⟨3, [], 3, true, b_has_kind⟩
def b_Frame_contains (cf : Nat → XC) : XS :=
      (sRt (xBo true (xIsi "str" (xV 1)) (xCmp .in_ (xV 1) (xFld 0 1 (xV 0)))))
def d_Frame_contains : FnS := ⟨2, [], 2, true, b_Frame_contains⟩
def b_is_integer (cf : Nat → XC) : XS :=
      (sRt (xBo true (xIsi "int" (xV 0)) (xBo true (xNot (xIsi "bool" (xV 0))) (xChain .lt .lt (xNeg (xC (.int 1000000000000000000000000000000000000000000000000000000000000))) (xV 0) (xC (.int 1000000000000000000000000000000000000000000000000000000000000))))))
def d_is_integer : FnS := ⟨1, [], 1, true, b_is_integer⟩
def b_is_body_in (cf : Nat → XC) : XS :=
      (sSq (sIf (tTr (xCmp .eq (xV 3) (xC (.int 0)))) (sRt (xC (.bl false))) sNx)
      (sSq (sIf (tTr (xCall (cf n_is_joined) (aC (xV 2) aN))) (sRt (xCall (biV .all) (aC (lcV false (.name 4) (iSq (xIx (xV 2) (xC (.int 1)))) tYe (xCall (cf n_is_body_in) (aC (xV 0) (aC (xV 1) (aC (xV 4) (aC (xOp .sub (xV 3) (xC (.int 1))) aN)))))) aN))) sNx)
      (sSq (sIf (tTr (xCall (cf n_has_shape) (aC (xV 2) (aC (xC (.str [110, 111, 116])) (aC (xC (.int 2)) aN))))) (sRt (xCall (cf n_is_body_in) (aC (xV 0) (aC (xV 1) (aC (xIx (xV 2) (xC (.int 1))) (aC (xOp .sub (xV 3) (xC (.int 1))) aN)))))) sNx)
      (sSq (sIf (tBo false (tNt (tTr (xCall (cf n_has_shape) (aC (xV 2) (aC (xC (.str [118, 97, 108])) (aC (xC (.int 4)) aN)))))) (tB1 false (tNt (tTr (xCall (cf n_is_op) (aC (xIx (xV 2) (xC (.int 1))) (aC (xC (.tup [.str [60, 61], .str [60], .str [61, 61]])) aN))))))) (sRt (xC (.bl false))) sNx)
      (sRt (xBo true (xCall (cf n_is_body_term) (aC (xV 0) (aC (xV 1) (aC (xIx (xV 2) (xC (.int 2))) aN)))) (xCall (cf n_is_body_term) (aC (xV 0) (aC (xV 1) (aC (xIx (xV 2) (xC (.int 3))) aN))))))))))
def d_is_body_in : FnS := ⟨4, [], 5, true, b_is_body_in⟩
def b_is_body_term (cf : Nat → XC) : XS :=
      (sRt (xBo true (xCall (cf n_is_value) (aC (xV 0) (aC (xV 2) (aC (xV 1) aN)))) (xBo false (xCmp .eq (xCall (biV .len) (aC (xV 2) aN)) (xC (.int 2))) (xBo false (xCmp .notIn (xIx (xV 2) (xC (.int 1))) (xV 1)) (xCmp .eq (xIx (xV 2) (xC (.int 2))) (xC (.int 0)))))))
def d_is_body_term : FnS := ⟨3, [], 3, true, b_is_body_term⟩
def b_is_value (cf : Nat → XC) : XS :=
      (sSq (sIf (tTr (xCall (cf n_is_cell) (aC (xV 0) (aC (xV 1) (aC (xV 2) aN))))) (sRt (xC (.bl true))) sNx)
      (sSq (sIf (tBo false (tNt (tTr (xIsi "tuple" (xV 1)))) (tBo false (tTr (xCmp .ne (xCall (biV .len) (aC (xV 1) aN)) (xC (.int 2)))) (tB1 false (tNt (tTr (xIsi "str" (xIx (xV 1) (xC (.int 0))))))))) (sRt (xC (.bl false))) sNx)
      (sRt (xBo true (xBo false (xCmp .eq (xIx (xV 1) (xC (.int 0))) (xC (.str []))) (xCall (cf n_has_kind) (aC (xV 0) (aC (xIx (xV 1) (xC (.int 0))) (aC (xC (.str [118, 97, 108, 117, 101])) aN))))) (xCall (cf n_is_integer) (aC (xIx (xV 1) (xC (.int 1))) aN))))))
def d_is_value : FnS := ⟨3, [.tup []], 3, true, b_is_value⟩
def b_is_cell (cf : Nat → XC) : XS :=
      (sSq (sIf (tBo false (tNt (tTr (xIsi "tuple" (xV 1)))) (tBo false (tTr (xCmp .ne (xCall (biV .len) (aC (xV 1) aN)) (xC (.int 4)))) (tB1 false (tNt (tTr (xCall (cf n_has_kind) (aC (xV 0) (aC (xIx (xV 1) (xC (.int 0))) (aC (xC (.str [97, 114, 114, 97, 121])) aN))))))))) (sRt (xC (.bl false))) sNx)
      (sRt (xBo true (xCall (cf n_is_position) (aC (xV 0) (aC (xSl false false (xV 1) (xC (.int 1)) (xC (.int 3))) (aC (xV 2) aN)))) (xCall (cf n_is_integer) (aC (xIx (xV 1) (xC (.int 3))) aN)))))
def d_is_cell : FnS := ⟨3, [], 3, true, b_is_cell⟩
def b_claim_depth (cf : Nat → XC) : XS :=
      (sSq (sEx (xCall (cf n_require_both) (aC (xV 0) (aC (xV 1) aN))))
      (sRt (xCall (cf n_depth_of) (aC (xV 1) aN))))
def d_claim_depth : FnS := ⟨2, [], 2, true, b_claim_depth⟩
def b_require_both (cf : Nat → XC) : XS :=
      (sSq (sEx (xCall (cf n_require_frame) (aC (xV 0) aN)))
      (sEx (xCall (cf n_require_claim) (aC (xV 0) (aC (xV 1) aN)))))
def d_require_both : FnS := ⟨2, [], 2, true, b_require_both⟩
def b_require_claim (cf : Nat → XC) : XS :=
      (sIf (tNt (tTr (xCall (cf n_is_claim_for) (aC (xV 0) (aC (xV 1) aN))))) sNo sNx)
def d_require_claim : FnS := ⟨2, [], 2, true, b_require_claim⟩
def b_depth_of (cf : Nat → XC) : XS :=
      (sRt (xOp .add (xC (.int 1)) (xMaxD (lcV false (.name 1) (iSq (xCall (cf n_claim_parts) (aC (xV 0) aN))) tYe (xCall (cf n_depth_of) (aC (xV 1) aN))) (xC (.int 0)))))
def d_depth_of : FnS := ⟨1, [], 2, true, b_depth_of⟩
def b_claim_parts (cf : Nat → XC) : XS :=
      (sMa (xV 0) (mCase (pSeq [(pLit [110, 111, 116]), (pCap 1)]) (sRt (xLst false (aC (xV 1) aN))) (mCase (pSeq [(pLit [97, 108, 108]), (pCap 2), (pCap 3), (pCap 4)]) (sRt (xLst false (aC (xV 3) (aC (xV 4) aN)))) (mCase (pSeq [(pOrs [(pLit [112, 111, 115]), (pLit [118, 97, 108])]), (pCap 5), (pCap 6), (pCap 7)]) (sRt (xLst false aN)) (mCase pWild (sRt (xCall (listV false) (aC (xIx (xV 0) (xC (.int 1))) aN))) mNil)))))
def d_claim_parts : FnS := ⟨1, [], 8, true, b_claim_parts⟩
def b_u_law_all_judged (cf : Nat → XC) : XS :=
      (sSq (sSt 4 (xLst false (aC (xCall (cf n_u_law_is_claim) (aC (xV 0) (aC (xV 3) aN))) (aC (xCall (cf n_u_law_is_guard) (aC (xV 0) (aC (xV 3) (aC (xV 2) aN)))) (aC (xCall (cf n_u_law_is_body) (aC (xV 0) (aC (xV 3) (aC (xV 2) aN)))) aN)))))
      (sSq (sSt 5 (xCall (reprV) (aC (xV 3) aN)))
      (sSq (sFo (.name 6) (iR1 (xC (.int 2))) (sSq (sSt 7 (xLst false (aC (xCall (cf n_is_claim) (aC (xV 1) (aC (xV 3) aN))) (aC (xCall (cf n_is_guard) (aC (xV 1) (aC (xV 2) (aC (xV 3) aN)))) (aC (xCall (cf n_is_body) (aC (xV 1) (aC (xV 2) (aC (xV 3) aN)))) aN)))))
      (sIf (tBo false (tTr (xCmp .ne (xCall (reprV) (aC (xV 7) aN)) (xCall (reprV) (aC (xV 4) aN)))) (tB1 false (tTr (xCmp .ne (xCall (reprV) (aC (xV 3) aN)) (xV 5))))) (sRt (xC (.bl false))) sNx)))
      (sRt (xC (.bl true))))))
def d_u_law_all_judged : FnS := ⟨4, [], 8, true, b_u_law_all_judged⟩
def b_u_law_is_claim (cf : Nat → XC) : XS :=
      (sSq (sIf (tTr (xCall (cf n_u_law_are_joined) (aC (xV 1) aN))) (sRt (xCmp .eq (lcV false (.name 2) (iSq (xIx (xV 1) (xC (.int 1)))) (tNt (tTr (xCall (cf n_u_law_is_claim) (aC (xV 0) (aC (xV 2) aN))))) (xV 2)) (xLst false aN))) sNx)
      (sSq (sIf (tTr (xCall (cf n_u_law_starts) (aC (xV 1) (aC (xC (.str [110, 111, 116])) (aC (xC (.int 2)) aN))))) (sRt (xCall (cf n_u_law_is_claim) (aC (xV 0) (aC (xIx (xV 1) (xC (.int 1))) aN)))) sNx)
      (sSq (sIf (tTr (xCall (cf n_u_law_starts) (aC (xV 1) (aC (xC (.str [97, 108, 108])) (aC (xC (.int 4)) aN))))) (sSq (sIf (tNt (tTr (xCall (cf n_u_law_are_own) (aC (xV 0) (aC (xIx (xV 1) (xC (.int 1))) aN))))) (sRt (xC (.bl false))) sNx)
      (sRt (xBo true (xCall (cf n_u_law_is_guard) (aC (xV 0) (aC (xIx (xV 1) (xC (.int 2))) (aC (xIx (xV 1) (xC (.int 1))) aN)))) (xCall (cf n_u_law_is_body) (aC (xV 0) (aC (xIx (xV 1) (xC (.int 3))) (aC (xIx (xV 1) (xC (.int 1))) aN))))))) sNx)
      (sSq (sIf (tBo true (tTr (xCall (cf n_u_law_starts) (aC (xV 1) (aC (xC (.str [112, 111, 115])) (aC (xC (.int 4)) aN))))) (tB1 true (tTr (xCall (cf n_u_law_is_op) (aC (xIx (xV 1) (xC (.int 1))) (aC (xLst false (aC (xC (.str [60, 61])) (aC (xC (.str [60])) (aC (xC (.str [61, 61])) aN)))) aN)))))) (sRt (xBo true (xCall (cf n_u_law_is_place) (aC (xV 0) (aC (xIx (xV 1) (xC (.int 2))) (aC (xTup aN) aN)))) (xCall (cf n_u_law_is_place) (aC (xV 0) (aC (xIx (xV 1) (xC (.int 3))) (aC (xTup aN) aN)))))) sNx)
      (sRt (xBo true (xCall (cf n_u_law_starts) (aC (xV 1) (aC (xC (.str [118, 97, 108])) (aC (xC (.int 4)) aN)))) (xCall (cf n_u_law_is_body) (aC (xV 0) (aC (xV 1) (aC (xTup aN) aN))))))))))
def d_u_law_is_claim : FnS := ⟨2, [], 3, true, b_u_law_is_claim⟩
def b_u_law_are_joined (cf : Nat → XC) : XS :=
      (sSq (sIf (tBo false (tNt (tTr (xIsi "tuple" (xV 0)))) (tBo false (tTr (xCmp .ne (xCall (biV .len) (aC (xV 0) aN)) (xC (.int 2)))) (tB1 false (tNt (tTr (xIsi "str" (xIx (xV 0) (xC (.int 0))))))))) (sRt (xC (.bl false))) sNx)
      (sRt (xBo true (xCmp .in_ (xIx (xV 0) (xC (.int 0))) (xLst false (aC (xC (.str [97, 110, 100])) (aC (xC (.str [111, 114])) aN)))) (xIsi "tuple" (xIx (xV 0) (xC (.int 1)))))))
def d_u_law_are_joined : FnS := ⟨1, [], 1, true, b_u_law_are_joined⟩
def b_u_law_starts (cf : Nat → XC) : XS :=
      (sRt (xBo true (xIsi "tuple" (xV 0)) (xBo true (xCmp .eq (xCall (biV .len) (aC (xV 0) aN)) (xV 2)) (xBo true (xIsi "str" (xIx (xV 0) (xC (.int 0)))) (xCmp .eq (xIx (xV 0) (xC (.int 0))) (xV 1))))))
def d_u_law_starts : FnS := ⟨3, [], 3, true, b_u_law_starts⟩
def b_u_law_is_op (cf : Nat → XC) : XS :=
      (sRt (xBo true (xIsi "str" (xV 0)) (xCmp .in_ (xV 0) (xV 1))))
def d_u_law_is_op : FnS := ⟨2, [], 2, true, b_u_law_is_op⟩
def b_u_law_is_body (cf : Nat → XC) : XS :=
      (sSq (sIf (tTr (xCall (cf n_u_law_are_joined) (aC (xV 1) aN))) (sRt (xCmp .eq (lcV false (.name 3) (iSq (xIx (xV 1) (xC (.int 1)))) (tNt (tTr (xCall (cf n_u_law_is_body) (aC (xV 0) (aC (xV 3) (aC (xV 2) aN)))))) (xV 3)) (xLst false aN))) sNx)
      (sSq (sIf (tTr (xCall (cf n_u_law_starts) (aC (xV 1) (aC (xC (.str [110, 111, 116])) (aC (xC (.int 2)) aN))))) (sRt (xCall (cf n_u_law_is_body) (aC (xV 0) (aC (xIx (xV 1) (xC (.int 1))) (aC (xV 2) aN))))) sNx)
      (sSq (sIf (tBo false (tNt (tTr (xCall (cf n_u_law_starts) (aC (xV 1) (aC (xC (.str [118, 97, 108])) (aC (xC (.int 4)) aN)))))) (tB1 false (tNt (tTr (xCall (cf n_u_law_is_op) (aC (xIx (xV 1) (xC (.int 1))) (aC (xLst false (aC (xC (.str [60, 61])) (aC (xC (.str [60])) (aC (xC (.str [61, 61])) aN)))) aN))))))) (sRt (xC (.bl false))) sNx)
      (sRt (xBo true (xCall (cf n_u_law_is_worth) (aC (xV 0) (aC (xIx (xV 1) (xC (.int 2))) (aC (xV 2) aN)))) (xCall (cf n_u_law_is_worth) (aC (xV 0) (aC (xIx (xV 1) (xC (.int 3))) (aC (xV 2) aN)))))))))
def d_u_law_is_body : FnS := ⟨3, [], 4, true, b_u_law_is_body⟩
def b_u_law_is_worth (cf : Nat → XC) : XS :=
      (sSq (sIf (tBo false (tNt (tTr (xIsi "tuple" (xV 1)))) (tBo false (tTr (xCmp .notIn (xCall (biV .len) (aC (xV 1) aN)) (xLst false (aC (xC (.int 2)) (aC (xC (.int 4)) aN))))) (tB1 false (tNt (tTr (xIsi "str" (xIx (xV 1) (xC (.int 0))))))))) (sRt (xC (.bl false))) sNx)
      (sSq (sIf (tTr (xCmp .eq (xCall (biV .len) (aC (xV 1) aN)) (xC (.int 2)))) (sRt (xBo true (xCmp .in_ (xIx (xV 1) (xC (.int 0))) (xOp .add (xLst false (aC (xC (.str [])) aN)) (xCall (listV false) (aC (xIx (xV 0) (xC (.int 2))) aN)))) (xCall (cf n_u_law_is_whole) (aC (xIx (xV 1) (xC (.int 1))) aN)))) sNx)
      (sSq (sIf (tBo false (tTr (xCmp .notIn (xIx (xV 1) (xC (.int 0))) (xCall (dictTV false) (aC (xIx (xV 0) (xC (.int 0))) aN)))) (tBo false (tNt (tTr (xCall (cf n_u_law_is_place) (aC (xV 0) (aC (xSl false false (xV 1) (xC (.int 1)) (xC (.int 3))) (aC (xV 2) aN)))))) (tB1 false (tNt (tTr (xCall (cf n_u_law_is_whole) (aC (xIx (xV 1) (xC (.int 3))) aN))))))) (sRt (xC (.bl false))) sNx)
      (sRt (xBo false (xCmp .notIn (xIx (xV 1) (xC (.int 1))) (xV 2)) (xCmp .eq (xIx (xV 1) (xC (.int 2))) (xC (.int 0))))))))
def d_u_law_is_worth : FnS := ⟨3, [], 3, true, b_u_law_is_worth⟩
def b_u_law_is_whole (cf : Nat → XC) : XS :=
      (sRt (xBo true (xIsi "int" (xV 0)) (xBo true (xNot (xIsi "bool" (xV 0))) (xCmp .lt (xCall (biV .abs) (aC (xV 0) aN)) (xOp .pow (xC (.int 10)) (xC (.int 60)))))))
def d_u_law_is_whole : FnS := ⟨1, [], 1, true, b_u_law_is_whole⟩
def b_u_law_is_place (cf : Nat → XC) : XS :=
      (sSq (sIf (tBo false (tNt (tTr (xIsi "tuple" (xV 1)))) (tBo false (tTr (xCmp .ne (xCall (biV .len) (aC (xV 1) aN)) (xC (.int 2)))) (tB1 false (tNt (tTr (xIsi "str" (xIx (xV 1) (xC (.int 0))))))))) (sRt (xC (.bl false))) sNx)
      (sRt (xBo true (xCmp .in_ (xIx (xV 1) (xC (.int 0))) (xOp .add (xCall (cf n_u_law_place_names) (aC (xV 0) aN)) (xCall (listV false) (aC (xV 2) aN)))) (xCall (cf n_u_law_is_whole) (aC (xIx (xV 1) (xC (.int 1))) aN)))))
def d_u_law_is_place : FnS := ⟨3, [], 3, true, b_u_law_is_place⟩
def b_u_law_are_own (cf : Nat → XC) : XS :=
      (sSq (sIf (tBo false (tNt (tTr (xIsi "tuple" (xV 1)))) (tB1 false (tTr (xCmp .notIn (xCall (biV .len) (aC (xV 1) aN)) (xLst false (aC (xC (.int 1)) (aC (xC (.int 2)) aN))))))) (sRt (xC (.bl false))) sNx)
      (sSq (sFo (.name 2) (iSq (xV 1)) (sIf (tBo false (tNt (tTr (xIsi "str" (xV 2)))) (tBo false (tTr (xCmp .eq (xV 2) (xC (.str [])))) (tBo false (tTr (xCmp .gt (xCall (biV .len) (aC (xV 2) aN)) (xC (.int 8)))) (tB1 false (tTr (xCmp .ne (xMe .strip (xV 2) (aC (xC (.str [97, 98, 99, 100, 101, 102, 103, 104, 105, 106, 107, 108, 109, 110, 111, 112, 113, 114, 115, 116, 117, 118, 119, 120, 121, 122])) aN)) (xC (.str [])))))))) (sRt (xC (.bl false))) sNx))
      (sRt (xBo true (xCmp .eq (xLenSet (xV 1)) (xCall (biV .len) (aC (xV 1) aN))) (xCmp .eq (lcV false (.name 2) (iSq (xV 1)) (tTr (xCmp .in_ (xV 2) (xCall (cf n_u_law_all_names) (aC (xV 0) aN)))) (xV 2)) (xLst false aN))))))
def d_u_law_are_own : FnS := ⟨2, [], 3, true, b_u_law_are_own⟩
def b_u_law_is_guard (cf : Nat → XC) : XS :=
      (sSq (sIf (tTr (xCall (cf n_u_law_are_joined) (aC (xV 1) aN))) (sRt (xCmp .eq (lcV false (.name 5) (iSq (xIx (xV 1) (xC (.int 1)))) (tNt (tTr (xCall (cf n_u_law_is_guard) (aC (xV 0) (aC (xV 5) (aC (xV 2) aN)))))) (xV 5)) (xLst false aN))) sNx)
      (sSq (sIf (tBo false (tNt (tTr (xCall (cf n_u_law_starts) (aC (xV 1) (aC (xC (.str [112, 111, 115])) (aC (xC (.int 4)) aN)))))) (tB1 false (tNt (tTr (xCall (cf n_u_law_is_op) (aC (xIx (xV 1) (xC (.int 1))) (aC (xLst false (aC (xC (.str [60, 61])) (aC (xC (.str [61, 61])) aN))) aN))))))) (sRt (xC (.bl false))) sNx)
      (sSq (sIf (tBo false (tNt (tTr (xCall (cf n_u_law_is_place) (aC (xV 0) (aC (xIx (xV 1) (xC (.int 2))) (aC (xV 2) aN)))))) (tB1 false (tNt (tTr (xCall (cf n_u_law_is_place) (aC (xV 0) (aC (xIx (xV 1) (xC (.int 3))) (aC (xV 2) aN)))))))) (sRt (xC (.bl false))) sNx)
      (sSq (sSt 3 (lcV false (.name 4) (iSq (xSl false true (xV 1) (xC (.int 2)) (xC .non))) (tTr (xCmp .in_ (xIx (xV 4) (xC (.int 0))) (xV 2))) (xIx (xV 4) (xC (.int 0)))))
      (sRt (xBo true (xCmp .ne (xV 3) (xLst false aN)) (xCmp .eq (lcV false (.name 4) (iSq (xSl false true (xV 1) (xC (.int 2)) (xC .non))) (tBo true (tTr (xCmp .in_ (xIx (xV 4) (xC (.int 0))) (xV 2))) (tB1 true (tTr (xCmp .ne (xIx (xV 4) (xC (.int 1))) (xC (.int 0)))))) (xV 4)) (xLst false aN))))))))
def d_u_law_is_guard : FnS := ⟨3, [], 6, true, b_u_law_is_guard⟩
def b_is_guard (cf : Nat → XC) : XS :=
      (sSq (sEx (xCall (cf n_require_own) (aC (xV 0) (aC (xV 1) aN))))
      (sRt (xCall (cf n_is_guard_in) (aC (xV 0) (aC (xV 1) (aC (xV 2) (aC (xC (.int 100)) aN)))))))
def d_is_guard : FnS := ⟨3, [], 3, true, b_is_guard⟩
def b_require_own (cf : Nat → XC) : XS :=
      (sSq (sEx (xCall (cf n_require_frame) (aC (xV 0) aN)))
      (sIf (tNt (tTr (xCall (cf n_are_own) (aC (xV 0) (aC (xV 1) aN))))) sNo sNx))
def d_require_own : FnS := ⟨2, [], 2, true, b_require_own⟩
def b_is_body (cf : Nat → XC) : XS :=
      (sSq (sEx (xCall (cf n_require_own) (aC (xV 0) (aC (xV 1) aN))))
      (sRt (xCall (cf n_is_body_in) (aC (xV 0) (aC (xV 1) (aC (xV 2) (aC (xC (.int 100)) aN)))))))
def d_is_body : FnS := ⟨3, [], 3, true, b_is_body⟩
def b_u_law_bent (cf : Nat → XC) : XS :=
      (sSq (sIf (tBo false (tNt (tTr (xIsi "tuple" (xV 2)))) (tBo false (tTr (xCmp .eq (xV 2) (xTup aN))) (tBo false (tTr (xCmp .eq (xV 3) (xC (.int 0)))) (tB1 false (tTr (xCmp .eq (xCall (cf n_u_law_tap) (aC (xV 0) (aC (xC (.int 4)) aN))) (xC (.int 0)))))))) (sSq (sSt 6 (xCall (cf n_u_law_tap) (aC (xV 0) (aC (xC (.int 9)) aN))))
      (sSq (sIf (tBo true (tTr (xIsi "tuple" (xV 2))) (tB1 true (tTr (xCmp .eq (xV 6) (xC (.int 0)))))) (sRt (xSl true false (xV 2) (xC .non) (xNeg (xC (.int 1))))) sNx)
      (sSq (sIf (tBo true (tTr (xIsi "tuple" (xV 2))) (tB1 true (tTr (xCmp .eq (xV 6) (xC (.int 1)))))) (sRt (xOp .add (xV 2) (xTup (aC (xCall (cf n_u_law_odd) (aC (xV 0) (aC (xV 1) (aC (xV 2) aN)))) aN)))) sNx)
      (sSq (sIf (tBo true (tTr (xIsi "tuple" (xV 2))) (tB1 true (tTr (xCmp .eq (xV 6) (xC (.int 2)))))) (sRt (xCall (listV false) (aC (xV 2) aN))) sNx)
      (sRt (xCall (cf n_u_law_odd) (aC (xV 0) (aC (xV 1) (aC (xV 2) aN))))))))) sNx)
      (sSq (sSt 4 (xCall (cf n_u_law_tap) (aC (xV 0) (aC (xCall (biV .len) (aC (xV 2) aN)) aN))))
      (sSq (sSt 5 (xCall (cf n_u_law_bent) (aC (xV 0) (aC (xV 1) (aC (xIx (xV 2) (xV 4)) (aC (xOp .sub (xV 3) (xC (.int 1))) aN))))))
      (sRt (xOp .add (xOp .add (xSl true false (xV 2) (xC .non) (xV 4)) (xTup (aC (xV 5) aN))) (xSl false true (xV 2) (xOp .add (xV 4) (xC (.int 1))) (xC .non)))))))
def d_u_law_bent : FnS := ⟨4, [], 7, true, b_u_law_bent⟩
def b_u_law_odd (cf : Nat → XC) : XS :=
      (sSq (sSt 3 (xOp .add (xCall (cf n_u_law_all_names) (aC (xV 1) aN)) (xLst false (aC (xC (.str [])) (aC (xC (.str [107])) (aC (xC (.str [107, 107])) (aC (xC (.str [122])) (aC (xC (.str [111, 119, 110])) (aC (xC (.str [75])) (aC (xC (.str [110, 105, 110, 101, 108, 101, 116, 116, 101])) (aC (xC (.str [110, 111, 116])) (aC (xC (.str [42, 49])) aN))))))))))))
      (sSq (sSt 4 (xCall (cf n_u_law_choice) (aC (xV 0) (aC (xV 3) aN))))
      (sSq (sSt 5 (xLst false (aC (xV 4) (aC (xTup (aC (xV 4) (aC (xC (.int 0)) aN))) (aC (xTup (aC (xV 4) (aC (xC (.int 1)) aN))) (aC (xTup (aC (xV 4) (aC (xNeg (xC (.int 1))) aN))) (aC (xTup (aC (xC (.str [])) (aC (xOp .pow (xC (.int 10)) (xC (.int 60))) aN))) (aC (xTup (aC (xV 4) (aC (xC (.bl true)) aN))) (aC (xTup (aC (xV 4) (aC (xC .non) aN))) (aC (xTup (aC (xV 4) aN)) (aC (xC .non) (aC (xC (.int 0)) (aC (xC (.bl true)) aN)))))))))))))
      (sSq (sSt 5 (xOp .add (xV 5) (xLst false (aC (xTup (aC (xV 4) (aC (xC (.str [])) (aC (xC (.int 0)) (aC (xC (.int 0)) aN))))) (aC (xTup (aC (xV 4) (aC (xV 4) (aC (xC (.int 0)) (aC (xC (.int 0)) aN))))) (aC (xTup (aC (xV 4) (aC (xC (.str [107])) (aC (xC (.int 0)) (aC (xC (.int 0)) aN))))) (aC (xTup (aC (xV 4) (aC (xC (.str [107])) (aC (xC (.int 1)) (aC (xC (.int 0)) aN))))) (aC (xTup (aC (xV 4) (aC (xC (.str [107])) (aC (xC (.int 0)) (aC (xC (.str [48])) aN))))) aN))))))))
      (sSq (sSt 5 (xOp .add (xV 5) (xLst false (aC (xTup (aC (xC (.str [97, 110, 100])) (aC (xTup aN) aN))) (aC (xTup (aC (xC (.str [111, 114])) (aC (xLst false aN) aN))) (aC (xTup (aC (xC (.str [110, 111, 116])) (aC (xTup aN) aN))) (aC (xTup (aC (xC (.str [97, 110, 100])) (aC (xTup (aC (xC .non) aN)) aN))) (aC (xLst false aN) (aC (xD0 false) (aC (xTup aN) (aC (xC (.str [60, 61])) (aC (xC (.str [60])) (aC (xC (.str [61, 61])) (aC (xC (.str [62])) (aC (xC (.str [33, 61])) aN)))))))))))))))
      (sSq (sSt 5 (xAdd true (xV 5) (xLst false (aC (xTup (aC (xC (.str [112, 111, 115])) (aC (xC (.str [60, 61])) (aC (xTup (aC (xC (.str [107])) (aC (xC (.int 0)) aN))) (aC (xTup (aC (xV 4) (aC (xC (.int 0)) aN))) aN))))) (aC (xTup (aC (xC (.str [112, 111, 115])) (aC (xC (.str [60])) (aC (xTup (aC (xC (.str [107])) (aC (xC (.int 0)) aN))) (aC (xTup (aC (xC (.str [])) (aC (xC (.int 0)) aN))) aN))))) aN)))))
      (sSq (sEx (xMe .append (xV 5) (aC (xTup (aC (xC (.str [118, 97, 108])) (aC (xC (.str [60])) (aC (xTup (aC (xV 4) (aC (xC (.int 0)) aN))) (aC (xTup (aC (xC (.str [])) (aC (xC (.int 0)) aN))) aN))))) aN)))
      (sSq (sSt 5 (xAdd false (xV 5) (xLst false (aC (xTup (aC (xC (.str [97, 108, 108])) (aC (xTup (aC (xC (.str [107])) aN)) (aC (xTup (aC (xC (.str [97, 110, 100])) (aC (xTup aN) aN))) (aC (xTup (aC (xC (.str [97, 110, 100])) (aC (xTup aN) aN))) aN))))) (aC (xTup (aC (xC (.str [107])) aN)) (aC (xTup (aC (xC (.str [107])) (aC (xC (.str [107, 107])) aN))) (aC (xTup (aC (xC (.str [107])) (aC (xC (.str [107])) aN))) (aC (xTup (aC (xV 4) (aC (xC (.str [107, 107])) aN))) (aC (xLst false (aC (xC (.str [107])) aN)) aN)))))))))
      (sSq (sSt 5 (xOp .add (xV 5) (xLst false (aC (xC (.str [112, 111, 115])) (aC (xC (.str [118, 97, 108])) (aC (xC (.str [97, 110, 100])) (aC (xC (.str [111, 114])) (aC (xC (.str [110, 111, 116])) (aC (xC (.str [97, 108, 108])) (aC (xC (.str [65, 108, 108])) (aC (xTup (aC (xC (.str [112, 111, 115])) (aC (xC (.str [60, 61])) (aC (xTup (aC (xC (.str [])) (aC (xC (.int 0)) aN))) (aC (xTup (aC (xV 4) (aC (xC (.int 0)) aN))) aN))))) (aC (xC (.int 1)) (aC (xNeg (xC (.int 1))) aN)))))))))))))
      (sRt (xCall (cf n_u_law_choice) (aC (xV 0) (aC (xV 5) aN)))))))))))))
def d_u_law_odd : FnS := ⟨3, [], 6, true, b_u_law_odd⟩
def T : Nat → Option FnS
  | 0 => some d_law
  | 1 => some d_u_law_keg
  | 2 => some d_u_law_sides
  | 3 => some d_u_law_choices
  | 4 => some d_u_law_tap
  | 5 => some d_u_law_choice
  | 6 => some d_u_law_frame_of
  | 7 => some d_Frame_init
  | 8 => some d_lengths_of
  | 9 => some d_are_frame
  | 10 => some d_are_names
  | 11 => some d_is_name
  | 12 => some d_is_array
  | 13 => some d_u_law_own_names
  | 14 => some d_u_law_all_names
  | 15 => some d_u_law_claim
  | 16 => some d_u_law_body
  | 17 => some d_u_law_worth
  | 18 => some d_u_law_place
  | 19 => some d_u_law_number
  | 20 => some d_u_law_place_names
  | 21 => some d_u_law_guard
  | 22 => some d_u_law_limits_right
  | 23 => some d_u_law_deep
  | 24 => some d_is_claim
  | 25 => some d_require_frame
  | 26 => some d_is_claim_for
  | 27 => some d_is_claim_in
  | 28 => some d_is_joined
  | 29 => some d_has_shape
  | 30 => some d_is_all_in
  | 31 => some d_are_own
  | 32 => some d_Frame_is_fresh
  | 33 => some d_is_guard_in
  | 34 => some d_is_op
  | 35 => some d_is_guard_term
  | 36 => some d_is_position
  | 37 => some d_is_place_name
  | 38 => some d_has_kind
  | 39 => some d_Frame_contains
  | 40 => some d_is_integer
  | 41 => some d_is_body_in
  | 42 => some d_is_body_term
  | 43 => some d_is_value
  | 44 => some d_is_cell
  | 45 => some d_claim_depth
  | 46 => some d_require_both
  | 47 => some d_require_claim
  | 48 => some d_depth_of
  | 49 => some d_claim_parts
  | 50 => some d_u_law_all_judged
  | 51 => some d_u_law_is_claim
  | 52 => some d_u_law_are_joined
  | 53 => some d_u_law_starts
  | 54 => some d_u_law_is_op
  | 55 => some d_u_law_is_body
  | 56 => some d_u_law_is_worth
  | 57 => some d_u_law_is_whole
  | 58 => some d_u_law_is_place
  | 59 => some d_u_law_are_own
  | 60 => some d_u_law_is_guard
  | 61 => some d_is_guard
  | 62 => some d_require_own
  | 63 => some d_is_body
  | 64 => some d_u_law_bent
  | 65 => some d_u_law_odd
  | _ => none
theorem c_law {k : Nat} {h : PH} {x0 : PV} : callS T (k + 1) n_law [x0] h = fin true h.length (b_law (callS T k) [some x0, none, none, none, none, none, none, none, none, none] h) := rfl
theorem c_u_law_keg {k : Nat} {h : PH} {x0 x1 : PV} : callS T (k + 1) n_u_law_keg [x0, x1] h = fin false h.length (b_u_law_keg (callS T k) [some x0, some x1, none, none, none] h) := rfl
theorem c_u_law_sides {k : Nat} {h : PH} {x0 x1 : PV} : callS T (k + 1) n_u_law_sides [x0, x1] h = fin true h.length (b_u_law_sides (callS T k) [some x0, some x1, none, none, none, none, none, none] h) := rfl
theorem c_u_law_choices {k : Nat} {h : PH} {x0 x1 x2 : PV} : callS T (k + 1) n_u_law_choices [x0, x1, x2] h = fin true h.length (b_u_law_choices (callS T k) [some x0, some x1, some x2, none, none, none] h) := rfl
theorem c_u_law_tap {k : Nat} {h : PH} {x0 x1 : PV} : callS T (k + 1) n_u_law_tap [x0, x1] h = fin true h.length (b_u_law_tap (callS T k) [some x0, some x1, none, none, none, none] h) := rfl
theorem c_u_law_choice {k : Nat} {h : PH} {x0 x1 : PV} : callS T (k + 1) n_u_law_choice [x0, x1] h = fin true h.length (b_u_law_choice (callS T k) [some x0, some x1] h) := rfl
theorem c_u_law_frame_of {k : Nat} {h : PH} {x0 : PV} : callS T (k + 1) n_u_law_frame_of [x0] h = fin true h.length (b_u_law_frame_of (callS T k) [some x0] h) := rfl
theorem c_Frame_init {k : Nat} {h : PH} {x0 x1 x2 x3 : PV} : callS T (k + 1) n_Frame_init [x0, x1, x2, x3] h = fin true h.length (b_Frame_init (callS T k) [some x0, some x1, some x2, some x3, none, none] h) := rfl
theorem c_lengths_of {k : Nat} {h : PH} {x0 : PV} : callS T (k + 1) n_lengths_of [x0] h = fin true h.length (b_lengths_of (callS T k) [some x0, none, none] h) := rfl
theorem c_are_frame {k : Nat} {h : PH} {x0 x1 x2 : PV} : callS T (k + 1) n_are_frame [x0, x1, x2] h = fin true h.length (b_are_frame (callS T k) [some x0, some x1, some x2, none, none, none, none] h) := rfl
theorem c_are_names {k : Nat} {h : PH} {x0 x1 : PV} : callS T (k + 1) n_are_names [x0, x1] h = fin true h.length (b_are_names (callS T k) [some x0, some x1, none] h) := rfl
theorem c_is_name {k : Nat} {h : PH} {x0 : PV} : callS T (k + 1) n_is_name [x0] h = fin true h.length (b_is_name (callS T k) [some x0, none] h) := rfl
theorem c_is_array {k : Nat} {h : PH} {x0 : PV} : callS T (k + 1) n_is_array [x0] h = fin true h.length (b_is_array (callS T k) [some x0] h) := rfl
theorem c_u_law_own_names {k : Nat} {h : PH} {x0 x1 : PV} : callS T (k + 1) n_u_law_own_names [x0, x1] h = fin true h.length (b_u_law_own_names (callS T k) [some x0, some x1, none, none] h) := rfl
theorem c_u_law_all_names {k : Nat} {h : PH} {x0 : PV} : callS T (k + 1) n_u_law_all_names [x0] h = fin true h.length (b_u_law_all_names (callS T k) [some x0, none] h) := rfl
theorem c_u_law_claim {k : Nat} {h : PH} {x0 x1 x2 : PV} : callS T (k + 1) n_u_law_claim [x0, x1, x2] h = fin true h.length (b_u_law_claim (callS T k) [some x0, some x1, some x2, none, none, none, none, none] h) := rfl
theorem c_u_law_body {k : Nat} {h : PH} {x0 x1 x2 x3 : PV} : callS T (k + 1) n_u_law_body [x0, x1, x2, x3] h = fin true h.length (b_u_law_body (callS T k) [some x0, some x1, some x2, some x3, none, none, none, none] h) := rfl
theorem c_u_law_worth {k : Nat} {h : PH} {x0 x1 x2 : PV} : callS T (k + 1) n_u_law_worth [x0, x1, x2] h = fin true h.length (b_u_law_worth (callS T k) [some x0, some x1, some x2, none, none, none] h) := rfl
theorem c_u_law_place {k : Nat} {h : PH} {x0 x1 : PV} : callS T (k + 1) n_u_law_place [x0, x1] h = fin true h.length (b_u_law_place (callS T k) [some x0, some x1] h) := rfl
theorem c_u_law_number {k : Nat} {h : PH} {x0 : PV} : callS T (k + 1) n_u_law_number [x0] h = fin true h.length (b_u_law_number (callS T k) [some x0] h) := rfl
theorem c_u_law_place_names {k : Nat} {h : PH} {x0 : PV} : callS T (k + 1) n_u_law_place_names [x0] h = fin true h.length (b_u_law_place_names (callS T k) [some x0, none] h) := rfl
theorem c_u_law_guard {k : Nat} {h : PH} {x0 x1 x2 x3 : PV} : callS T (k + 1) n_u_law_guard [x0, x1, x2, x3] h = fin true h.length (b_u_law_guard (callS T k) [some x0, some x1, some x2, some x3, none, none, none, none, none] h) := rfl
theorem c_u_law_limits_right {k : Nat} {h : PH} {x0 x1 x2 : PV} : callS T (k + 1) n_u_law_limits_right [x0, x1, x2] h = fin true h.length (b_u_law_limits_right (callS T k) [some x0, some x1, some x2, none, none, none, none, none] h) := rfl
theorem c_u_law_deep {k : Nat} {h : PH} {x0 : PV} : callS T (k + 1) n_u_law_deep [x0] h = fin true h.length (b_u_law_deep (callS T k) [some x0, none, none] h) := rfl
theorem c_is_claim {k : Nat} {h : PH} {x0 x1 : PV} : callS T (k + 1) n_is_claim [x0, x1] h = fin true h.length (b_is_claim (callS T k) [some x0, some x1] h) := rfl
theorem c_require_frame {k : Nat} {h : PH} {x0 : PV} : callS T (k + 1) n_require_frame [x0] h = fin true h.length (b_require_frame (callS T k) [some x0] h) := rfl
theorem c_is_claim_for {k : Nat} {h : PH} {x0 x1 : PV} : callS T (k + 1) n_is_claim_for [x0, x1] h = fin true h.length (b_is_claim_for (callS T k) [some x0, some x1] h) := rfl
theorem c_is_claim_in {k : Nat} {h : PH} {x0 x1 x2 : PV} : callS T (k + 1) n_is_claim_in [x0, x1, x2] h = fin true h.length (b_is_claim_in (callS T k) [some x0, some x1, some x2, none] h) := rfl
theorem c_is_joined {k : Nat} {h : PH} {x0 : PV} : callS T (k + 1) n_is_joined [x0] h = fin true h.length (b_is_joined (callS T k) [some x0] h) := rfl
theorem c_has_shape {k : Nat} {h : PH} {x0 x1 x2 : PV} : callS T (k + 1) n_has_shape [x0, x1, x2] h = fin true h.length (b_has_shape (callS T k) [some x0, some x1, some x2] h) := rfl
theorem c_is_all_in {k : Nat} {h : PH} {x0 x1 x2 : PV} : callS T (k + 1) n_is_all_in [x0, x1, x2] h = fin true h.length (b_is_all_in (callS T k) [some x0, some x1, some x2, none] h) := rfl
theorem c_are_own {k : Nat} {h : PH} {x0 x1 : PV} : callS T (k + 1) n_are_own [x0, x1] h = fin true h.length (b_are_own (callS T k) [some x0, some x1, none] h) := rfl
theorem c_Frame_is_fresh {k : Nat} {h : PH} {x0 x1 : PV} : callS T (k + 1) n_Frame_is_fresh [x0, x1] h = fin true h.length (b_Frame_is_fresh (callS T k) [some x0, some x1] h) := rfl
theorem c_is_guard_in {k : Nat} {h : PH} {x0 x1 x2 x3 : PV} : callS T (k + 1) n_is_guard_in [x0, x1, x2, x3] h = fin true h.length (b_is_guard_in (callS T k) [some x0, some x1, some x2, some x3, none] h) := rfl
theorem c_is_op {k : Nat} {h : PH} {x0 x1 : PV} : callS T (k + 1) n_is_op [x0, x1] h = fin true h.length (b_is_op (callS T k) [some x0, some x1] h) := rfl
theorem c_is_guard_term {k : Nat} {h : PH} {x0 x1 x2 : PV} : callS T (k + 1) n_is_guard_term [x0, x1, x2] h = fin true h.length (b_is_guard_term (callS T k) [some x0, some x1, some x2] h) := rfl
theorem c_is_position2 {k : Nat} {h : PH} {x0 x1 : PV} : callS T (k + 1) n_is_position [x0, x1] h = fin true h.length (b_is_position (callS T k) [some x0, some x1, some (.tup [])] h) := rfl
theorem c_is_position {k : Nat} {h : PH} {x0 x1 x2 : PV} : callS T (k + 1) n_is_position [x0, x1, x2] h = fin true h.length (b_is_position (callS T k) [some x0, some x1, some x2] h) := rfl
theorem c_is_place_name {k : Nat} {h : PH} {x0 x1 x2 : PV} : callS T (k + 1) n_is_place_name [x0, x1, x2] h = fin true h.length (b_is_place_name (callS T k) [some x0, some x1, some x2] h) := rfl
theorem c_has_kind {k : Nat} {h : PH} {x0 x1 x2 : PV} : callS T (k + 1) n_has_kind [x0, x1, x2] h = fin true h.length (b_has_kind (callS T k) [some x0, some x1, some x2] h) := rfl
theorem c_Frame_contains {k : Nat} {h : PH} {x0 x1 : PV} : callS T (k + 1) n_Frame_contains [x0, x1] h = fin true h.length (b_Frame_contains (callS T k) [some x0, some x1] h) := rfl
theorem c_is_integer {k : Nat} {h : PH} {x0 : PV} : callS T (k + 1) n_is_integer [x0] h = fin true h.length (b_is_integer (callS T k) [some x0] h) := rfl
theorem c_is_body_in {k : Nat} {h : PH} {x0 x1 x2 x3 : PV} : callS T (k + 1) n_is_body_in [x0, x1, x2, x3] h = fin true h.length (b_is_body_in (callS T k) [some x0, some x1, some x2, some x3, none] h) := rfl
theorem c_is_body_term {k : Nat} {h : PH} {x0 x1 x2 : PV} : callS T (k + 1) n_is_body_term [x0, x1, x2] h = fin true h.length (b_is_body_term (callS T k) [some x0, some x1, some x2] h) := rfl
theorem c_is_value2 {k : Nat} {h : PH} {x0 x1 : PV} : callS T (k + 1) n_is_value [x0, x1] h = fin true h.length (b_is_value (callS T k) [some x0, some x1, some (.tup [])] h) := rfl
theorem c_is_value {k : Nat} {h : PH} {x0 x1 x2 : PV} : callS T (k + 1) n_is_value [x0, x1, x2] h = fin true h.length (b_is_value (callS T k) [some x0, some x1, some x2] h) := rfl
theorem c_is_cell {k : Nat} {h : PH} {x0 x1 x2 : PV} : callS T (k + 1) n_is_cell [x0, x1, x2] h = fin true h.length (b_is_cell (callS T k) [some x0, some x1, some x2] h) := rfl
theorem c_claim_depth {k : Nat} {h : PH} {x0 x1 : PV} : callS T (k + 1) n_claim_depth [x0, x1] h = fin true h.length (b_claim_depth (callS T k) [some x0, some x1] h) := rfl
theorem c_require_both {k : Nat} {h : PH} {x0 x1 : PV} : callS T (k + 1) n_require_both [x0, x1] h = fin true h.length (b_require_both (callS T k) [some x0, some x1] h) := rfl
theorem c_require_claim {k : Nat} {h : PH} {x0 x1 : PV} : callS T (k + 1) n_require_claim [x0, x1] h = fin true h.length (b_require_claim (callS T k) [some x0, some x1] h) := rfl
theorem c_depth_of {k : Nat} {h : PH} {x0 : PV} : callS T (k + 1) n_depth_of [x0] h = fin true h.length (b_depth_of (callS T k) [some x0, none] h) := rfl
theorem c_claim_parts {k : Nat} {h : PH} {x0 : PV} : callS T (k + 1) n_claim_parts [x0] h = fin true h.length (b_claim_parts (callS T k) [some x0, none, none, none, none, none, none, none] h) := rfl
theorem c_u_law_all_judged {k : Nat} {h : PH} {x0 x1 x2 x3 : PV} : callS T (k + 1) n_u_law_all_judged [x0, x1, x2, x3] h = fin true h.length (b_u_law_all_judged (callS T k) [some x0, some x1, some x2, some x3, none, none, none, none] h) := rfl
theorem c_u_law_is_claim {k : Nat} {h : PH} {x0 x1 : PV} : callS T (k + 1) n_u_law_is_claim [x0, x1] h = fin true h.length (b_u_law_is_claim (callS T k) [some x0, some x1, none] h) := rfl
theorem c_u_law_are_joined {k : Nat} {h : PH} {x0 : PV} : callS T (k + 1) n_u_law_are_joined [x0] h = fin true h.length (b_u_law_are_joined (callS T k) [some x0] h) := rfl
theorem c_u_law_starts {k : Nat} {h : PH} {x0 x1 x2 : PV} : callS T (k + 1) n_u_law_starts [x0, x1, x2] h = fin true h.length (b_u_law_starts (callS T k) [some x0, some x1, some x2] h) := rfl
theorem c_u_law_is_op {k : Nat} {h : PH} {x0 x1 : PV} : callS T (k + 1) n_u_law_is_op [x0, x1] h = fin true h.length (b_u_law_is_op (callS T k) [some x0, some x1] h) := rfl
theorem c_u_law_is_body {k : Nat} {h : PH} {x0 x1 x2 : PV} : callS T (k + 1) n_u_law_is_body [x0, x1, x2] h = fin true h.length (b_u_law_is_body (callS T k) [some x0, some x1, some x2, none] h) := rfl
theorem c_u_law_is_worth {k : Nat} {h : PH} {x0 x1 x2 : PV} : callS T (k + 1) n_u_law_is_worth [x0, x1, x2] h = fin true h.length (b_u_law_is_worth (callS T k) [some x0, some x1, some x2] h) := rfl
theorem c_u_law_is_whole {k : Nat} {h : PH} {x0 : PV} : callS T (k + 1) n_u_law_is_whole [x0] h = fin true h.length (b_u_law_is_whole (callS T k) [some x0] h) := rfl
theorem c_u_law_is_place {k : Nat} {h : PH} {x0 x1 x2 : PV} : callS T (k + 1) n_u_law_is_place [x0, x1, x2] h = fin true h.length (b_u_law_is_place (callS T k) [some x0, some x1, some x2] h) := rfl
theorem c_u_law_are_own {k : Nat} {h : PH} {x0 x1 : PV} : callS T (k + 1) n_u_law_are_own [x0, x1] h = fin true h.length (b_u_law_are_own (callS T k) [some x0, some x1, none] h) := rfl
theorem c_u_law_is_guard {k : Nat} {h : PH} {x0 x1 x2 : PV} : callS T (k + 1) n_u_law_is_guard [x0, x1, x2] h = fin true h.length (b_u_law_is_guard (callS T k) [some x0, some x1, some x2, none, none, none] h) := rfl
theorem c_is_guard {k : Nat} {h : PH} {x0 x1 x2 : PV} : callS T (k + 1) n_is_guard [x0, x1, x2] h = fin true h.length (b_is_guard (callS T k) [some x0, some x1, some x2] h) := rfl
theorem c_require_own {k : Nat} {h : PH} {x0 x1 : PV} : callS T (k + 1) n_require_own [x0, x1] h = fin true h.length (b_require_own (callS T k) [some x0, some x1] h) := rfl
theorem c_is_body {k : Nat} {h : PH} {x0 x1 x2 : PV} : callS T (k + 1) n_is_body [x0, x1, x2] h = fin true h.length (b_is_body (callS T k) [some x0, some x1, some x2] h) := rfl
theorem c_u_law_bent {k : Nat} {h : PH} {x0 x1 x2 x3 : PV} : callS T (k + 1) n_u_law_bent [x0, x1, x2, x3] h = fin true h.length (b_u_law_bent (callS T k) [some x0, some x1, some x2, some x3, none, none, none] h) := rfl
theorem c_u_law_odd {k : Nat} {h : PH} {x0 x1 x2 : PV} : callS T (k + 1) n_u_law_odd [x0, x1, x2] h = fin true h.length (b_u_law_odd (callS T k) [some x0, some x1, some x2, none, none, none] h) := rfl
end k05

set_option maxRecDepth 100000
namespace k05
open Lt PySem
/-- all places are kegs -/
def Hq (L : Nat) (h : PH) : Prop := h.length = L ∧ ∀ o ∈ h, ∃ a b c : Int, o = .lst [.int a, .int b, .int c]
theorem Hq.get {L n : Nat} {h : PH} (q : Hq L h) (hn : n < L) : ∃ a b c : Int, h[n]? = some (.lst [.int a, .int b, .int c]) := by
  have hn' : n < h.length := q.1 ▸ hn
  obtain ⟨a, b, c, e⟩ := q.2 h[n] (List.getElem_mem hn')
  exact ⟨a, b, c, by rw [List.getElem?_eq_getElem hn', e]⟩
theorem Hq.set {L n : Nat} {h : PH} (q : Hq L h) (a b c : Int) : Hq L (h.set n (.lst [.int a, .int b, .int c])) := by
  refine ⟨by rw [List.length_set]; exact q.1, fun o ho => ?_⟩
  rcases List.mem_or_eq_of_mem_set ho with e | e
  · exact q.2 o e
  · exact ⟨a, b, c, e⟩
theorem ge_set {h : PH} {n : Nat} {o : PO} (hn : n < h.length) : (h.set n o)[n]? = some o := by simp [hn]
section
variable {k L n : Nat} {h : PH}
theorem tap0 {a b c : Int} (t : Int) (e : h[n]? = some (.lst [.int a, .int b, .int c])) (t0 : 0 < t) (t1 : t < 1000000) : Ev (callS T (k + 1) n_u_law_tap [.ref n, .int t] h) fun r => (∃ i, r.1 = .int i ∧ 0 ≤ i ∧ i < t) ∧ ∃ a b c, r.2 = h.set n (.lst [.int a, .int b, .int c]) := by
  have hn : n < h.length := (List.getElem?_eq_some_iff.mp e).1
  have i0 := fun (x : List PV) (h : PH) (e : h[n]? = some (.lst x)) => ix_ref e 0
  have i1 := fun (x : List PV) (h : PH) (e : h[n]? = some (.lst x)) => ix_ref e 1
  have i2 := fun (x : List PV) (h : PH) (e : h[n]? = some (.lst x)) => ix_ref e 2
  have s0 := fun (x : List PV) (h : PH) (v : PV) (e : h[n]? = some (.lst x)) => setIx_ref (v := v) e 0
  have s2 := fun (x : List PV) (h : PH) (v : PV) (e : h[n]? = some (.lst x)) => setIx_ref (v := v) e 2
  simp only [Int.ofNat_zero, Int.cast_ofNat_Int] at i0 i1 i2 s0 s2
  rw [c_u_law_tap]
  by_cases h0 : 0 < a
  · simp [b_u_law_tap, i0 _ _ e, s0 _ _ _ e, h0, t0, show t < 1073741824 by omega]
    rw [fin_rt' (by simp)]
    simp only [Ev_some]
    exact ⟨⟨_, rfl, Int.emod_nonneg _ (by omega), Int.emod_lt_of_pos _ t0⟩, _, _, _, rfl⟩
  · have hs : ∀ o, (h.set n o)[n]? = some o := fun o => ge_set (by omega)
    have m1 : ∀ x : Int, (-18446744073709551616 < x % 2147483587 ∧ x % 2147483587 < 18446744073709551616) := fun x => by
      have := Int.emod_nonneg x (b := 2147483587) (by decide)
      have := Int.emod_lt_of_pos x (b := 2147483587) (by decide)
      omega
    have m2 : ∀ x : Int, (-18446744073709551616 < x % 1000000009 ∧ x % 1000000009 < 18446744073709551616) := fun x => by
      have := Int.emod_nonneg x (b := 1000000009) (by decide)
      have := Int.emod_lt_of_pos x (b := 1000000009) (by decide)
      omega
    simp [b_u_law_tap, i0 _ _ e, i2 _ _ e, s2 _ _ _ e, i1 _ _ (hs _), i2 _ _ (hs _), h0, t0, m1, m2]
    rw [fin_rt' (by simp)]
    simp only [Ev_some]
    exact ⟨⟨_, rfl, Int.emod_nonneg _ (by omega), Int.emod_lt_of_pos _ t0⟩, _, _, _, rfl⟩
theorem tap_ok (t : Int) (hn : n < L) (q : Hq L h) (t0 : 0 < t) (t1 : t < 1000000) : Ev (callS T (k + 1) n_u_law_tap [.ref n, .int t] h) fun r => Hq L r.2 ∧ ∃ i, r.1 = .int i ∧ 0 ≤ i ∧ i < t := by
  obtain ⟨a, b, c, e⟩ := q.get hn
  exact (tap0 t e t0 t1).imp fun r ⟨p, a, b, c, e⟩ => ⟨e ▸ q.set a b c, p⟩
/-- one of some items -/
theorem choice_ok {xs : List PV} (hn : n < L) (q : Hq L h) (h0 : xs ≠ []) (h1 : xs.length < 1000000) : Ev (callS T (k + 2) n_u_law_choice [.ref n, .lst xs] h) fun r => Hq L r.2 ∧ r.1 ∈ xs := by
  have hp : 0 < xs.length := List.length_pos_iff.mpr h0
  rw [c_u_law_choice]
  simp [b_u_law_choice]
  refine Ev.bd (tap_ok _ hn q (by omega) (by omega)) ?_
  rintro v h1 ⟨q1, i, e, i0, i1⟩
  obtain ⟨j, rfl⟩ := Int.eq_ofNat_of_zero_le i0
  have hj : j < xs.length := by omega
  simp only at e q1
  subst e
  simp [ix_lst, hj]
  rw [fin_rt' (by rw [q1.1, q.1])]
  simp [q1]
theorem choiceT_ok {xs : List PV} (hn : n < L) (q : Hq L h) (h0 : xs ≠ []) (h1 : xs.length < 1000000) : Ev (callS T (k + 2) n_u_law_choice [.ref n, .tup xs] h) fun r => Hq L r.2 ∧ r.1 ∈ xs := by
  have hp : 0 < xs.length := List.length_pos_iff.mpr h0
  rw [c_u_law_choice]
  simp [b_u_law_choice]
  refine Ev.bd (tap_ok _ hn q (by omega) (by omega)) ?_
  rintro v h1 ⟨q1, i, e, i0, i1⟩
  obtain ⟨j, rfl⟩ := Int.eq_ofNat_of_zero_le i0
  have hj : j < xs.length := by omega
  simp only at e q1
  subst e
  simp [ix_tup, hj]
  rw [fin_rt' (by rw [q1.1, q.1])]
  simp [q1]
theorem Hq.cl {L m : Nat} {h : PH} (q : Hq L h) : h.all (PO.cl m) = true := List.all_eq_true.mpr fun o ho => by
  obtain ⟨a, b, c, e⟩ := q.2 o ho
  rw [e]
  rfl
theorem perm_erase {α : Type} : ∀ (l : List α) (j : Nat) (h : j < l.length), (l[j] :: l.eraseIdx j).Perm l
  | x :: l, 0, _ => .refl _
  | x :: l, j + 1, h => (List.Perm.swap x _ _).trans ((perm_erase l j (Nat.lt_of_succ_lt_succ h)).cons x)
/-- some of some items -/
theorem choices_ok {xs : List PV} (c : Nat) (hn : n < L) (q : Hq L h) (h1 : xs.length < 1000) (hc : ∀ x ∈ xs, x.cl L = true) : Ev (callS T (k + 2) n_u_law_choices [.ref n, .lst xs, .int c] h) fun r => Hq L r.2 ∧ ∃ ys zs, r.1 = .lst ys ∧ (ys ++ zs).Perm xs ∧ ys.length = min c xs.length := by
  obtain ⟨m, hm⟩ : ∃ m, m = min c xs.length := ⟨_, rfl⟩
  have em : (if xs.length < c then (xs.length : Int) else c) = m := by split <;> omega
  have hl := q.1
  rw [c_u_law_choices]
  simp [b_u_law_choices, lstV_al, em, rng1V_ok (n := (m : Int)) (h := h ++ [PO.lst xs, PO.lst []]) (by omega) (by omega)]
  refine Ev.fnR (fun i s h => ∃ h' ys zs, h = h' ++ [PO.lst zs, PO.lst ys] ∧ Hq L h' ∧ (ys ++ zs).Perm xs ∧ ys.length = i ∧ ∃ x, s = [some (PV.ref n), some (PV.lst xs), some (PV.int ↑c), x, some (PV.ref L), some (PV.ref (L + 1))])
    ⟨h, [], xs, rfl, q, by simp, rfl, none, by rw [q.1]⟩ ?_ ?_
  · rintro i s h2 hi ⟨h', ys, zs, rfl, q', pe, hl, x, rfl⟩
    have hz : ys.length + zs.length = xs.length := by rw [← pe.length_eq, List.length_append]
    obtain ⟨a, b, c, e⟩ := q'.get hn
    have hL := q'.1
    have e2 : (h' ++ [PO.lst zs, PO.lst ys])[n]? = some (.lst [.int a, .int b, .int c]) := by rw [List.getElem?_append_left (by rw [q'.1]; exact hn), e]
    have eL : ∀ (h' : PH) (zs ys : List PV), h'.length = L → (h' ++ [PO.lst zs, PO.lst ys])[L]? = some (.lst zs) := fun h' zs ys q => by rw [List.getElem?_append_right (by omega), q]; simp
    have eL1 : ∀ (h' : PH) (zs ys : List PV), h'.length = L → (h' ++ [PO.lst zs, PO.lst ys])[L + 1]? = some (.lst ys) := fun h' zs ys q => by rw [List.getElem?_append_right (by omega), q]; simp
    simp [rcvV, eL1, eL, biV, lenV, hL]
    refine Ev.bd (tap0 _ e2 (by omega) (by omega)) ?_
    rintro v h1 ⟨⟨i, e, i0, i1⟩, a, b, c, e3⟩
    obtain ⟨j, rfl⟩ := Int.eq_ofNat_of_zero_le i0
    have hj : j < zs.length := by omega
    have hs : (h' ++ [PO.lst zs, PO.lst ys]).set n (.lst [.int a, .int b, .int c]) = h'.set n (.lst [.int a, .int b, .int c]) ++ [PO.lst zs, PO.lst ys] := by rw [List.set_append_left _ _ (by omega)]
    have hL2 : (h'.set n (.lst [.int a, .int b, .int c])).length = L := by rw [List.length_set, hL]
    simp only [hs] at e e3
    subst e e3
    have s1 : ∀ (h' : PH) (x y z : PO), h'.length = L → (h' ++ [x, y]).set L z = h' ++ [z, y] := fun h' x y z q => by rw [List.set_append_right _ _ (by omega), q]; simp
    have s2 : ∀ (h' : PH) (x y z : PO), h'.length = L → (h' ++ [x, y]).set (L + 1) z = h' ++ [x, z] := fun h' x y z q => by rw [List.set_append_right _ _ (by omega), q]; simp
    simp [meV, eL, eL1, hL2, hL, ixN', hj, s1, s2, show ys.length < sizeLine from by rw [sizeLine_eq]; omega]
    refine ⟨_, ys ++ [zs[j]], zs.eraseIdx j, rfl, q'.set a b c, ?_, by simp [hl]⟩
    refine List.Perm.trans ?_ pe
    rw [List.append_assoc]
    refine List.Perm.append_left ys ?_
    show (zs[j] :: zs.eraseIdx j).Perm zs
    exact perm_erase zs j hj
  · rintro s h2 ⟨h', ys, zs, rfl, q', pe, hl, x, rfl⟩
    simp
    have hL := q'.1
    refine ⟨(.lst ys, h'), ?_, q', ys, rfl, ⟨zs, pe⟩, by rw [hl, hm]⟩
    show some (gc true h.length (.ref (L + 1)) (h' ++ [PO.lst zs, PO.lst ys])) = _
    have eL1 : (h' ++ [PO.lst zs, PO.lst ys])[L + 1]? = some (.lst ys) := by rw [List.getElem?_append_right (by omega), q'.1]; simp
    rw [gc_cut (w := .lst ys) (by simp; omega) (by omega) q'.cl (.inr ⟨L + 1, rfl, rfl, by omega, by simp [PV.cl]; omega, .inl ⟨ys, eL1, cls_of fun x hx => by
      have := hc x (pe.mem_iff.mp (List.mem_append_left _ hx))
      rwa [q.1], rfl⟩⟩)]
theorem pow_ok {i j r : Int} (h : 0 ≤ j ∧ (Builtin.Int.intBits i : Int) * j ≤ 2 ^ 27) (e : i ^ j.toNat = r) : opV .pow (.int i) (.int j) = some (.int r) := by
  show (if 0 ≤ j ∧ (Builtin.Int.intBits i : Int) * j ≤ 2 ^ 27 then some (PV.int (i ^ j.toNat)) else none) = _
  rw [if_pos h, e]
theorem pow60 : opV .pow (.int 10) (.int 60) = some (.int 1000000000000000000000000000000000000000000000000000000000000) := pow_ok (by decide +kernel) (by decide +kernel)
theorem pow18 : opV .pow (.int 10) (.int 18) = some (.int 1000000000000000000) := pow_ok (by decide +kernel) (by decide +kernel)
theorem pow20 : opV .pow (.int 10) (.int 20) = some (.int 100000000000000000000) := pow_ok (by decide +kernel) (by decide +kernel)
theorem pow480 : ∃ g : Int, 0 < g ∧ opV .pow (.int 1000000000000000000000000000000000000000000000000000000000000) (.int 8) = some (.int g) := ⟨_, by decide +kernel, pow_ok (by decide +kernel) rfl⟩
theorem keg_ok {ns : List Int} (i : Nat) (z : i < 64) (q : Hq L h) : Ev (callS T (k + 1) n_u_law_keg [.scr ns, .int i] h) fun r => Hq (L + 1) r.2 ∧ r.1 = .ref L := by
  have ix : ∀ hi : i < ns.length, ixV h (.scr ns) (.int i) = some (.int ns[i]) := fun hi => by
    show (ixN' ns.length i).bind (fun j => (ns[j]?).map PV.int) = _
    unfold ixN'
    rw [if_pos (by omega), if_pos (by omega)]
    simp [hi]
  obtain ⟨g, g0, eg⟩ := pow480
  have fin : ∀ a b c : Int, Ev (fin false (List.length h) (some (.rt (.ref h.length) (h ++ [.lst [.int a, .int b, .int c]])))) fun r => Hq (L + 1) r.2 ∧ r.1 = .ref L := fun a b c => by
    show Ev (some (gc false h.length (.ref h.length) (h ++ [.lst [.int a, .int b, .int c]]))) _
    have e : gc false h.length (.ref h.length) (h ++ [.lst [.int a, .int b, .int c]]) = (.ref h.length, h ++ [.lst [.int a, .int b, .int c]]) := by
      unfold gc
      rw [if_neg (by simp), List.take_left' rfl, if_pos q.cl, if_neg (by simp [PV.cl])]
      rfl
    rw [e, Ev_some]
    refine ⟨⟨by simp [q.1], fun o ho => ?_⟩, by rw [q.1]⟩
    rcases List.mem_append.mp ho with ho | ho
    · exact q.2 o ho
    · exact ⟨a, b, c, List.mem_singleton.mp ho⟩
  rw [c_u_law_keg]
  by_cases hi : i < ns.length
  · simp [b_u_law_keg, hi, ix hi, pow60, pow18, eg, g0, Ev_ib, lstV_al]
    exact ⟨fun _ => fin _ _ _, fun _ => fin _ _ _⟩
  · simp [b_u_law_keg, hi, pow60, pow18, eg, g0, Ev_ib, lstV_al]
    exact ⟨fun _ => fin _ _ _, fun _ => fin _ _ _⟩
end
end k05

set_option maxRecDepth 100000
namespace k05
open Lt PySem
section
variable {k : Nat} {h : PH}
theorem lit_letters : ([97, 98, 99, 100, 101, 102, 103, 104, 105, 106, 107, 108, 109, 110, 111, 112, 113, 114, 115, 116, 117, 118, 119, 120, 121, 122] : Tx) = letters := rfl
theorem is_name_str {x : Tx} : callS T (k + 1) n_is_name [.str x] h = some (.bl (nameT x), h) := by
  have H : lcL (.name 1) tYe (xCmp .in_ (xV 1) (xC (.str letters))) [some (.str x), none] (x.map fun c => .str [c]) h = some (x.map fun c => .bl (decide (c ∈ letters)), h) :=
    lcL_g _ _ fun c _ => ⟨[some (.str x), some (.str [c])], rfl, by simp [isIn_one]⟩
  rw [c_is_name]
  simp only [b_is_name, lit_letters]
  by_cases h1 : 1 ≤ x.length
  · by_cases h2 : x.length ≤ 8
    · simp [h1, h2, H, all_map, show (1 : Int) ≤ x.length by omega, show (x.length : Int) ≤ 8 by omega, nameT, fin_rt]
    · simp [h1, h2, show (1 : Int) ≤ x.length by omega, show ¬ (x.length : Int) ≤ 8 by omega, nameT, fin_rt]
  · simp [h1, show ¬ (1 : Int) ≤ x.length by omega, nameT, fin_rt]
def isName (v : PV) : Bool := match v with
  | .str x => nameT x
  | _ => false
theorem is_name_ok {v : PV} (p : Pln v) : callS T (k + 1) n_is_name [v] h = some (.bl (isName v), h) := by
  cases e : isStr v with
  | true =>
    cases v <;> first | cases e | skip
    exact is_name_str
  | false =>
    have : isName v = false := by cases v <;> first | rfl | cases e
    rw [c_is_name]
    simp [b_is_name, p.kd, e, fin_rt, this]
/-- the parts of a frame -/
structure Sd where
  A : List (Tx × Tx)
  P : List Tx
  V : List Tx
def pr (p : Tx × Tx) : PV := .tup [.str p.1, .str p.2]
namespace Sd
def an (S : Sd) : List Tx := S.A.map (·.1)
def ln (S : Sd) : List Tx := S.A.map (·.2)
def all (S : Sd) : List Tx := S.an ++ (dd S.ln ++ (S.P ++ S.V))
def v (S : Sd) : PV := .lst [.ptup (S.A.map pr), .tup (S.P.map .str), .tup (S.V.map .str)]
structure Ok (S : Sd) : Prop where
  a : S.A.length ≤ 12
  p : S.P.length ≤ 6
  v : S.V.length ≤ 6
  nd : S.all.Nodup
  nm : ∀ x ∈ S.all, nameT x = true
def kk (S : Sd) : List DK := S.all.map .inr
def kv (S : Sd) : List PV := (S.an.map fun _ => .str [97, 114, 114, 97, 121]) ++ ((dd S.ln).map (fun _ => .str [108, 101, 110, 103, 116, 104]) ++ ((S.P.map fun _ => .str [112, 111, 115, 105, 116, 105, 111, 110]) ++ S.V.map fun _ => .str [118, 97, 108, 117, 101]))
/-- the frame -/
def fr (S : Sd) : PV := .obj 0 [.tup (S.A.map pr), .dct S.kk S.kv, .dct (S.an.map .inr) (S.ln.map .str), .tup ((dd S.ln).map .str), .tup (S.P.map .str), .tup (S.V.map .str)]
end Sd
theorem lengths_ok {A : List (Tx × Tx)} (z : A.length ≤ 12) (nm : ∀ x ∈ dd (A.map (·.2)), nameT x = true) : callS T (k + 1) n_lengths_of [.tup (A.map pr)] h = some (.tup ((dd (A.map (·.2))).map .str), h) := by
  have H : dcL (.tup [1, 2]) (xV 2) (xC (.bl true)) [some (.tup (A.map pr)), none, none] (A.map pr) [] [] h = some ((dd (A.map (·.2))).map .inr, (dd (A.map (·.2))).map fun _ => .bl true, h) := by
    rw [dcL_ok (fun x => .inr (strOf ((items x).getD 1 .non))) (fun _ => .bl true) _ _ _ fun x hx => ?_]
    · have := putAll_same (fun x => strOf ((items x).getD 1 .non)) (.bl true) (A.map pr) []
      simp only [List.map_nil] at this
      rw [this, List.map_map]
      rfl
    · obtain ⟨p, hp, rfl⟩ := List.mem_map.mp hx
      exact ⟨[some (.tup (A.map pr)), some (.str p.1), some (.str p.2)], .str p.2, by simp [asg, pr, setAll], by simp, rfl, by simp⟩
  rw [c_lengths_of]
  have hl := dd_len (l := A.map (·.2))
  rw [List.length_map] at hl
  simp [b_lengths_of, H, list_keys nm (by omega), fin_rt]
theorem is_array_ok {p : Tx × Tx} : callS T (k + 2) n_is_array [pr p] h = some (.bl (nameT p.1 && nameT p.2), h) := by
  rw [c_is_array]
  cases e : nameT p.1 <;> simp [b_is_array, pr, is_name_str, e, fin_rt]
theorem are_names_ok {l : List Tx} {n : Int} : callS T (k + 2) n_are_names [.tup (l.map .str), .int n] h = some (.bl (decide ((l.length : Int) ≤ n) && l.all nameT), h) := by
  have H : lcL (.name 2) tYe (xCall (callS T (k + 1) n_is_name) (aC (xV 2) aN)) [some (.tup (l.map .str)), some (.int n), none] (l.map .str) h = some (l.map fun x => .bl (nameT x), h) :=
    lcL_g _ _ fun x _ => ⟨[some (.tup (l.map .str)), some (.int n), some (.str x)], rfl, by simp [is_name_str]⟩
  rw [c_are_names]
  by_cases e : (l.length : Int) ≤ n
  · simp [b_are_names, e, H, all_map, fin_rt]
  · simp [b_are_names, e, fin_rt]
theorem are_frame_ok {S : Sd} (o : S.Ok) : callS T (k + 3) n_are_frame [.tup (S.A.map pr), .tup (S.P.map .str), .tup (S.V.map .str)] h = some (.bl true, h) := by
  have ha := o.a
  have hp := o.p
  have hv := o.v
  have nA : ∀ p ∈ S.A, nameT p.1 = true := fun p hp => o.nm _ (List.mem_append_left _ (List.mem_map_of_mem hp))
  have nL : ∀ x ∈ dd S.ln, nameT x = true := fun x hx => o.nm _ (List.mem_append_right _ (List.mem_append_left _ hx))
  have nB : ∀ p ∈ S.A, nameT p.2 = true := fun p hp => nL _ (dd_mem.mpr (List.mem_map_of_mem hp))
  have nP : ∀ x ∈ S.P, nameT x = true := fun x hx => o.nm _ (List.mem_append_right _ (List.mem_append_right _ (List.mem_append_left _ hx)))
  have nV : ∀ x ∈ S.V, nameT x = true := fun x hx => o.nm _ (List.mem_append_right _ (List.mem_append_right _ (List.mem_append_right _ hx)))
  have hl := dd_len (l := S.ln)
  have hl' : S.ln.length = S.A.length := List.length_map ..
  have h1 : ∀ s : Sl, s = [some (.tup (S.A.map pr)), some (.tup (S.P.map .str)), some (.tup (S.V.map .str)), none, none, none, none] → lcL (.name 4) tYe (xCall (callS T (k + 2) n_is_array) (aC (xV 4) aN)) s (S.A.map pr) h = some (S.A.map fun p => .bl (nameT p.1 && nameT p.2), h) := fun s e => by
    subst e
    exact lcL_g _ _ fun p hp => ⟨_, rfl, by simp [is_array_ok]⟩
  have h2 : ∀ s : Sl, s = [some (.tup (S.A.map pr)), some (.tup (S.P.map .str)), some (.tup (S.V.map .str)), none, none, none, none] → lcL (.tup [5, 6]) tYe (xV 5) s (S.A.map pr) h = some (S.A.map fun p => .str p.1, h) := fun s e => by
    subst e
    exact lcL_g _ _ fun p hp => ⟨[some (.tup (S.A.map pr)), some (.tup (S.P.map .str)), some (.tup (S.V.map .str)), none, none, some (.str p.1), some (.str p.2)], by simp [asg, pr, setAll], by simp⟩
  have h3 : (S.A.all fun p => nameT p.1 && nameT p.2) = true := List.all_eq_true.mpr fun p hp => by rw [nA p hp, nB p hp]; rfl
  have h4 : S.P.all nameT = true := List.all_eq_true.mpr nP
  have h5 : S.V.all nameT = true := List.all_eq_true.mpr nV
  have h6 : (S.A.map fun p => PV.str p.1) ++ ((dd (S.A.map (·.2))).map PV.str ++ (S.P.map .str ++ S.V.map .str)) = S.all.map .str := by
    unfold Sd.all Sd.an Sd.ln
    simp only [List.map_append, List.map_map]
    rfl
  have hs : S.all.length = S.A.length + ((dd S.ln).length + (S.P.length + S.V.length)) := by
    unfold Sd.all Sd.an
    simp only [List.length_append, List.length_map]
  have ha' : ¬ (12 < (S.A.length : Int)) := by omega
  rw [c_are_frame]
  simp [b_are_frame, ha', hp, hv, h1 _ rfl, h2 _ rfl, all_map, h3, h4, h5, are_names_ok, lengths_ok ha nL, h6, lstV_ok (vs := S.all.map .str) (h := h) (by rw [List.length_map]; omega), strsV_map, show (S.P.length : Int) ≤ 6 by omega, show (S.V.length : Int) ≤ 6 by omega, show S.all.length + 1 < 4096 by omega]
  have h7 := nubS_nodup_iff.mpr o.nd
  simp [h7, fin_rt]
theorem init_ok {S : Sd} {L : Nat} (o : S.Ok) (q : Hq L h) : callS T (k + 5) n_u_law_frame_of [S.v] h = some (S.fr, h) := by
  have ha := o.a
  have hp := o.p
  have hv := o.v
  have hL := q.1
  have nA : ∀ x ∈ S.an, nameT x = true := fun x hx => o.nm _ (List.mem_append_left _ hx)
  have nL : ∀ x ∈ dd S.ln, nameT x = true := fun x hx => o.nm _ (List.mem_append_right _ (List.mem_append_left _ hx))
  have hl := dd_len (l := S.ln)
  have hl' : S.ln.length = S.A.length := List.length_map ..
  have hn' : S.an.length = S.A.length := List.length_map ..
  have nd := o.nd
  unfold Sd.all at nd
  have nd2 := (List.nodup_append.mp nd).2.1
  have nd3 := (List.nodup_append.mp nd2).2.1
  have d1 : ∀ s l, s = [some (.ref L), some (.tup (S.A.map pr)), some (.tup (S.P.map .str)), some (.tup (S.V.map .str)), none, none] → dcL (.tup [4, 5]) (xV 4) (xV 5) s (S.A.map pr) [] [] (h ++ [.ins 0 l]) = some (S.an.map .inr, S.ln.map .str, h ++ [.ins 0 l]) := fun s l e => by
    subst e
    rw [dcL_ok (fun x => .inr (strOf ((items x).getD 0 .non))) (fun x => (items x).getD 1 .non) _ _ _ fun x hx => ?_, putAll_new]
    · simp [Sd.an, Sd.ln, pr, items, strOf, Function.comp_def]
    · have : (S.an.map (Sum.inr : Tx → DK)).Nodup := nodup_inr (List.nodup_append.mp nd).1
      simpa [Sd.an, pr, items, strOf, Function.comp_def] using this
    · obtain ⟨p, hp, rfl⟩ := List.mem_map.mp hx
      exact ⟨[some (.ref L), some (.tup (S.A.map pr)), some (.tup (S.P.map .str)), some (.tup (S.V.map .str)), some (.str p.1), some (.str p.2)], .str p.1, by simp [asg, pr, setAll], by simp, rfl, by simp [pr, items]⟩
  have d2 : ∀ (c : PV) (s : Sl) (l : List Tx) (h : PH), l.Nodup → s.length = 6 → dcL (.name 4) (xV 4) (xC c) s (l.map .str) [] [] h = some (l.map .inr, l.map fun _ => c, h) := fun c s l h nd e => by
    rw [dcL_ok (fun x => .inr (strOf x)) (fun x => c) _ _ _ fun x hx => ?_, putAll_new]
    · simp [strOf, Function.comp_def]
    · have : (l.map (Sum.inr : Tx → DK)).Nodup := nodup_inr nd
      simpa [strOf, Function.comp_def] using this
    · obtain ⟨p, hp, rfl⟩ := List.mem_map.mp hx
      exact ⟨s.set 4 (some (.str p)), .str p, rfl, by simp [e], rfl, by simp⟩
  have d4 : ∀ l, l[2]? = some (some (.dct (S.an.map .inr) (S.ln.map .str))) → dwV .keys (xFld 0 2 (xV 0)) [some (.ref L), some (.tup (S.A.map pr)), some (.tup (S.P.map .str)), some (.tup (S.V.map .str)), none, none] (h ++ [.ins 0 l]) = some (S.an.map .str, h ++ [.ins 0 l]) := fun l e =>
    keys_walk (vs := S.ln.map .str) nA (by omega) (by simp [fld_new hL e])
  have e1 : ∀ a b : PV, putD 2 b (putD 0 a []) = [some a, none, some b] := fun _ _ => rfl
  have e3 : ∀ a b c : PV, putD 3 c [some a, none, some b] = [some a, none, some b, some c] := fun _ _ _ => rfl
  have e4 : ∀ a b c d : PV, putD 4 d [some a, none, some b, some c] = [some a, none, some b, some c, some d] := fun _ _ _ _ => rfl
  have e5 : ∀ a b c d e : PV, putD 5 e [some a, none, some b, some c, some d] = [some a, none, some b, some c, some d, some e] := fun _ _ _ _ _ => rfl
  have e6 : ∀ a b c d e f : PV, putD 1 f [some a, none, some b, some c, some d, some e] = [some a, some f, some b, some c, some d, some e] := fun _ _ _ _ _ _ => rfl
  have nd1 := (List.nodup_append.mp nd).1
  have ndP := (List.nodup_append.mp nd3).1
  have ndV := (List.nodup_append.mp nd3).2.1
  have ndi := nodup_inr nd
  have ndi2 := nodup_inr (show ((S.an ++ dd S.ln) ++ (S.P ++ S.V)).Nodup by rw [List.append_assoc]; exact nd)
  have ndi3 := nodup_inr (show (((S.an ++ dd S.ln) ++ S.P) ++ S.V).Nodup by simp only [List.append_assoc]; exact nd)
  simp only [List.map_append] at ndi ndi2 ndi3
  have n1 := fun h => d2 (.str [97, 114, 114, 97, 121]) [some (.ref L), some (.tup (S.A.map pr)), some (.tup (S.P.map .str)), some (.tup (S.V.map .str)), none, none] S.an h nd1 rfl
  have n2 := fun h => d2 (.str [108, 101, 110, 103, 116, 104]) [some (.ref L), some (.tup (S.A.map pr)), some (.tup (S.P.map .str)), some (.tup (S.V.map .str)), none, none] (dd S.ln) h dd_nodup rfl
  have n3 := fun h => d2 (.str [112, 111, 115, 105, 116, 105, 111, 110]) [some (.ref L), some (.tup (S.A.map pr)), some (.tup (S.P.map .str)), some (.tup (S.V.map .str)), none, none] S.P h ndP rfl
  have n4 := fun h => d2 (.str [118, 97, 108, 117, 101]) [some (.ref L), some (.tup (S.A.map pr)), some (.tup (S.P.map .str)), some (.tup (S.V.map .str)), none, none] S.V h ndV rfl
  have m1 : ∀ c : PV, mergeV [] [] (S.an.map .inr) (S.an.map fun _ => c) = (S.an.map .inr, S.an.map fun _ => c) := fun c => mergeV_new _ _ [] [] (by simp) (by simpa using nodup_inr nd1)
  have m2 : ∀ c d : PV, mergeV (S.an.map .inr) (S.an.map fun _ => c) ((dd S.ln).map .inr) ((dd S.ln).map fun _ => d) = (S.an.map .inr ++ (dd S.ln).map .inr, (S.an.map fun _ => c) ++ (dd S.ln).map fun _ => d) := fun c d => mergeV_new _ _ _ _ (by simp) (List.nodup_append.mp ndi2).1
  have m3 : ∀ c d e : PV, mergeV (S.an.map .inr ++ (dd S.ln).map .inr) ((S.an.map fun _ => c) ++ (dd S.ln).map fun _ => d) (S.P.map .inr) (S.P.map fun _ => e) = ((S.an.map .inr ++ (dd S.ln).map .inr) ++ S.P.map .inr, ((S.an.map fun _ => c) ++ (dd S.ln).map fun _ => d) ++ S.P.map fun _ => e) := fun c d e => mergeV_new _ _ _ _ (by simp) (List.nodup_append.mp ndi3).1
  have m4 : ∀ c d e f : PV, mergeV ((S.an.map .inr ++ (dd S.ln).map .inr) ++ S.P.map .inr) (((S.an.map fun _ => c) ++ (dd S.ln).map fun _ => d) ++ S.P.map fun _ => e) (S.V.map .inr) (S.V.map fun _ => f) = (((S.an.map .inr ++ (dd S.ln).map .inr) ++ S.P.map .inr) ++ S.V.map .inr, (((S.an.map fun _ => c) ++ (dd S.ln).map fun _ => d) ++ S.P.map fun _ => e) ++ S.V.map fun _ => f) := fun c d e f => mergeV_new _ _ _ _ (by simp) ndi3
  simp only [List.append_assoc] at m3 m4
  have f3 : ∀ a b : PV, fldO 0 3 (.ref L) (h ++ [.ins 0 [some a, none, some b, some (.tup ((dd S.ln).map .str)), some (.tup (S.P.map .str)), some (.tup (S.V.map .str))]]) = some (.tup ((dd S.ln).map .str), h ++ [.ins 0 [some a, none, some b, some (.tup ((dd S.ln).map .str)), some (.tup (S.P.map .str)), some (.tup (S.V.map .str))]]) := fun a b => fld_new hL rfl
  rw [c_u_law_frame_of]
  simp [b_u_law_frame_of, Sd.v, mkV]
  rw [c_Frame_init]
  simp [b_Frame_init, are_frame_ok o, hL, put_new hL, d1 _ _ rfl, e1]
  have LO : ∀ h, callS T (k + 3) n_lengths_of [.tup (S.A.map pr)] h = some (.tup ((dd S.ln).map .str), h) := fun h => lengths_ok (k := k + 2) (h := h) ha nL
  have z : ∀ m, m ≤ 4096 → m ≤ sizeLine := fun m h => Nat.le_trans h (by decide)
  have kve : (List.map (fun x => PV.str [97, 114, 114, 97, 121]) S.an ++
                      (List.map (fun x => PV.str [108, 101, 110, 103, 116, 104]) (dd S.ln) ++
                        (List.map (fun x => PV.str [112, 111, 115, 105, 116, 105, 111, 110]) S.P ++
                          List.map (fun x => PV.str [118, 97, 108, 117, 101]) S.V))) = S.kv := rfl
  have kke : List.map Sum.inr S.an ++ (List.map Sum.inr (dd S.ln) ++ (List.map Sum.inr S.P ++ List.map Sum.inr S.V)) = S.kk := by unfold Sd.kk Sd.all; simp only [List.map_append]
  simp [LO, put_new hL, e3, e4, e5, e6, starD, d4, n1, n2, n3, n4, m1, m2, m3, m4, f3, z S.an.length (by omega), z (S.an.length + (dd S.ln).length) (by omega), z (S.an.length + (dd S.ln).length + S.P.length) (by omega), z (S.an.length + ((dd S.ln).length + S.P.length) + S.V.length) (by omega), kve, kke]
  rw [fin_nx' (by simp [hL])]
  have ckv : PV.cls L S.kv = true := cls_app cls_const (cls_app cls_const (cls_app cls_const cls_const))
  have cA : PV.cls L (S.A.map pr) = true := cls_of fun y hx => by
    obtain ⟨z, _, rfl⟩ := List.mem_map.mp hx
    rfl
  simp only [bd_some]
  rw [loose_ok (x := .tup (S.A.map pr)) (xs := [.dct S.kk S.kv, .dct (S.an.map .inr) (S.ln.map .str), .tup ((dd S.ln).map .str), .tup (S.P.map .str), .tup (S.V.map .str)]) hL rfl (by simp [PV.cls, PV.cl, ckv, cA]) q.cl]
  simp [fin_rt' hL]
  rfl
end
end k05

set_option maxRecDepth 100000
namespace k05
open Lt PySem
namespace Sd
def kd (S : Sd) (x : Tx) : Option Tx := if x ∈ S.an then some [97, 114, 114, 97, 121] else if x ∈ dd S.ln then some [108, 101, 110, 103, 116, 104] else if x ∈ S.P then some [112, 111, 115, 105, 116, 105, 111, 110] else if x ∈ S.V then some [118, 97, 108, 117, 101] else none
end Sd
section
variable {k : Nat} {h : PH} {S : Sd} {x c : Tx} {v : PV} {own : List Tx}
theorem kd_lkp : lkp S.kk S.kv (.inr x) = (S.kd x).map .str := by
  have e : S.kk = S.an.map .inr ++ ((dd S.ln).map .inr ++ (S.P.map .inr ++ S.V.map .inr)) := by unfold Sd.kk Sd.all; simp only [List.map_append]
  rw [e]
  unfold Sd.kv
  rw [lkp_app (by simp), lkp_app (by simp), lkp_app (by simp), lkp_const, lkp_const, lkp_const, lkp_const]
  unfold Sd.kd
  by_cases h1 : x ∈ S.an
  · simp [h1]
  · by_cases h2 : x ∈ dd S.ln
    · simp [h1, h2]
    · by_cases h3 : x ∈ S.P
      · simp [h1, h2, h3]
      · by_cases h4 : x ∈ S.V <;> simp [h1, h2, h3, h4]
theorem kd_has : hasK S.kk (.inr x) = (S.kd x).isSome := by
  rw [Bool.eq_iff_iff, hasK_iff]
  unfold Sd.kk Sd.all Sd.kd
  simp only [List.mem_map, List.mem_append, Sum.inr.injEq, exists_eq_right]
  by_cases h1 : x ∈ S.an
  · simp [h1]
  · by_cases h2 : x ∈ dd S.ln
    · simp [h1, h2]
    · by_cases h3 : x ∈ S.P
      · simp [h1, h2, h3]
      · by_cases h4 : x ∈ S.V <;> simp [h1, h2, h3, h4]
theorem Sd.Ok.kinds (o : S.Ok) : decide (S.kd x = some [97, 114, 114, 97, 121]) = decide (x ∈ S.an) ∧ decide (S.kd x = some [108, 101, 110, 103, 116, 104]) = decide (x ∈ S.ln) ∧ decide (S.kd x = some [112, 111, 115, 105, 116, 105, 111, 110]) = decide (x ∈ S.P) ∧ decide (S.kd x = some [118, 97, 108, 117, 101]) = decide (x ∈ S.V) := by
  have nd := o.nd
  unfold Sd.all at nd
  obtain ⟨_, nd2, d1⟩ := List.nodup_append.mp nd
  obtain ⟨_, nd3, d2⟩ := List.nodup_append.mp nd2
  obtain ⟨_, _, d3⟩ := List.nodup_append.mp nd3
  have ld := dd_mem (x := x) (l := S.ln)
  unfold Sd.kd
  by_cases h1 : x ∈ S.an
  · have a2 : ¬ x ∈ dd S.ln := fun e => d1 x h1 x (List.mem_append_left _ e) rfl
    have a3 : ¬ x ∈ S.P := fun e => d1 x h1 x (List.mem_append_right _ (List.mem_append_left _ e)) rfl
    have a4 : ¬ x ∈ S.V := fun e => d1 x h1 x (List.mem_append_right _ (List.mem_append_right _ e)) rfl
    have a5 : ¬ x ∈ S.ln := fun e => a2 (ld.mpr e)
    simp [h1, a2, a3, a4, a5]
  · by_cases h2 : x ∈ dd S.ln
    · have a3 : ¬ x ∈ S.P := fun e => d2 x h2 x (List.mem_append_left _ e) rfl
      have a4 : ¬ x ∈ S.V := fun e => d2 x h2 x (List.mem_append_right _ e) rfl
      have a5 : x ∈ S.ln := ld.mp h2
      simp [h1, h2, a3, a4, a5]
    · have a5 : ¬ x ∈ S.ln := fun e => h2 (ld.mpr e)
      by_cases h3 : x ∈ S.P
      · have a4 : ¬ x ∈ S.V := fun e => d3 x h3 x e rfl
        simp [h1, h2, h3, a4, a5]
      · by_cases h4 : x ∈ S.V <;> simp [h1, h2, h3, h4, a5]
theorem contains_ok (p : Pln v) : callS T (k + 1) n_Frame_contains [S.fr, v] h = some (.bl (isStr v && (S.kd (strOf v)).isSome), h) := by
  rw [c_Frame_contains]
  cases e : isStr v with
  | false => simp [b_Frame_contains, p.kd, e, fin_rt]
  | true =>
    cases v <;> first | cases e | skip
    simp [b_Frame_contains, Sd.fr, inV, toDK, kd_has, fin_rt, strOf]
theorem has_kind_ok (p : Pln v) : callS T (k + 2) n_has_kind [S.fr, v, .str c] h = some (.bl (isStr v && decide (S.kd (strOf v) = some c)), h) := by
  rw [c_has_kind]
  have co := contains_ok (k := k) (S := S) (h := h) p
  have io : inOV 0 (callS T (k + 1) n_Frame_contains) false v S.fr h = some (.bl (isStr v && (S.kd (strOf v)).isSome), h) := by
    have := inOV_obj (c := 0) (cf := callS T (k + 1) n_Frame_contains) (ne := false) (v := v) co
    rw [Bool.false_xor] at this
    exact this
  simp only [b_has_kind]
  simp [io]
  cases e : isStr v with
  | false => simp [fin_rt]
  | true =>
    cases v <;> first | cases e | skip
    rename_i x
    cases e2 : S.kd x with
    | none => simp [strOf, e2, fin_rt]
    | some z =>
      have lk := kd_lkp (S := S) (x := x)
      rw [e2] at lk
      simp [strOf, e2, Sd.fr, ixV, toDK, lk, fin_rt]
theorem hk_arr (o : S.Ok) (p : Pln v) : callS T (k + 2) n_has_kind [S.fr, v, .str [97, 114, 114, 97, 121]] h = some (.bl (isStr v && decide (strOf v ∈ S.an)), h) := by rw [has_kind_ok p, o.kinds.1]
theorem hk_len (o : S.Ok) (p : Pln v) : callS T (k + 2) n_has_kind [S.fr, v, .str [108, 101, 110, 103, 116, 104]] h = some (.bl (isStr v && decide (strOf v ∈ S.ln)), h) := by rw [has_kind_ok p, o.kinds.2.1]
theorem hk_pos (o : S.Ok) (p : Pln v) : callS T (k + 2) n_has_kind [S.fr, v, .str [112, 111, 115, 105, 116, 105, 111, 110]] h = some (.bl (isStr v && decide (strOf v ∈ S.P)), h) := by rw [has_kind_ok p, o.kinds.2.2.1]
theorem hk_val (o : S.Ok) (p : Pln v) : callS T (k + 2) n_has_kind [S.fr, v, .str [118, 97, 108, 117, 101]] h = some (.bl (isStr v && decide (strOf v ∈ S.V)), h) := by rw [has_kind_ok p, o.kinds.2.2.2]
def isWhole : PV → Bool
  | .int i => decide (-1000000000000000000000000000000000000000000000000000000000000 < i) && decide (i < 1000000000000000000000000000000000000000000000000000000000000)
  | _ => false
theorem is_integer_ok (p : Pln v) : callS T (k + 1) n_is_integer [v] h = some (.bl (isWhole v), h) := by
  rw [c_is_integer]
  cases v with
  | int i =>
    by_cases e : -1000000000000000000000000000000000000000000000000000000000000 < i <;> simp [b_is_integer, e, isWhole, fin_rt]
  | bl b => simp [b_is_integer, isWhole, fin_rt]
  | _ => simp [b_is_integer, p.kd, isInt, isWhole, fin_rt]
theorem law_whole_ok (p : Pln v) : callS T (k + 1) n_u_law_is_whole [v] h = some (.bl (isWhole v), h) := by
  rw [c_u_law_is_whole]
  cases v with
  | int i =>
    simp [b_u_law_is_whole, isWhole, pow60, fin_rt]
    rw [Bool.eq_iff_iff]
    simp only [Bool.and_eq_true, decide_eq_true_eq]
    split <;> omega
  | bl b => simp [b_u_law_is_whole, isWhole, fin_rt]
  | _ => simp [b_u_law_is_whole, p.kd, isInt, isWhole, fin_rt]
def pname (S : Sd) (own : List Tx) : PV → Bool
  | .str x => decide (x = []) || (decide (x ∈ own) || (decide (x ∈ S.P) || decide (x ∈ S.ln)))
  | _ => false
theorem is_place_name_ok (o : S.Ok) (p : Pln v) : callS T (k + 3) n_is_place_name [S.fr, v, .tup (own.map .str)] h = some (.bl (pname S own v), h) := by
  rw [c_is_place_name]
  have h1 := hk_pos (k := k) (h := h) o p
  have h2 := hk_len (k := k) (h := h) o p
  cases e : isStr v with
  | false =>
    have : pname S own v = false := by cases v <;> first | rfl | cases e
    simp [b_is_place_name, p.kd, e, fin_rt, this]
  | true =>
    cases v <;> first | cases e | skip
    rename_i x
    by_cases e1 : x = []
    · simp [b_is_place_name, e1, fin_rt, pname]
    · by_cases e2 : x ∈ own
      · simp [b_is_place_name, e1, e2, fin_rt, pname]
      · by_cases e3 : x ∈ S.P
        · simp [b_is_place_name, e1, e2, e3, h1, strOf, isStr, fin_rt, pname]
        · simp [b_is_place_name, e1, e2, e3, h1, h2, strOf, isStr, fin_rt, pname]
          exact decide_eq_decide.mpr Iff.rfl
def plc (S : Sd) (own : List Tx) (v : PV) : Bool := isTup v && ((items v).length == 2 && (pname S own (arg 0 v) && isWhole (arg 1 v)))
theorem two {l : List PV} (e : l.length = 2) : ∃ a b, l = [a, b] := match l, e with
  | [a, b], _ => ⟨a, b, rfl⟩
theorem four {l : List PV} (e : l.length = 4) : ∃ a b c d, l = [a, b, c, d] := match l, e with
  | [a, b, c, d], _ => ⟨a, b, c, d, rfl⟩
theorem is_position_ok (o : S.Ok) (p : Pln v) : callS T (k + 4) n_is_position [S.fr, v, .tup (own.map .str)] h = some (.bl (plc S own v), h) := by
  rw [c_is_position]
  cases e : isTup v with
  | false => simp [b_is_position, p.kd, e, fin_rt, plc]
  | true =>
    cases v <;> first | cases e | skip
    rename_i l
    by_cases e1 : l.length = 2
    · obtain ⟨a, b, rfl⟩ := two e1
      have pa := p.tup a (by simp)
      have pb := p.tup b (by simp)
      cases e2 : pname S own a <;> simp [b_is_position, is_place_name_ok o pa, is_integer_ok pb, e2, fin_rt, plc, isTup, items, arg]
    · simp [b_is_position, e1, show ¬ (l.length : Int) = 2 by omega, fin_rt, plc, items]
theorem is_position0_ok (o : S.Ok) (p : Pln v) : callS T (k + 4) n_is_position [S.fr, v] h = some (.bl (plc S [] v), h) := is_position_ok (own := []) o p
def cel (S : Sd) (own : List Tx) (v : PV) : Bool := isTup v && ((items v).length == 4 && (isStr (arg 0 v) && decide (strOf (arg 0 v) ∈ S.an) && (plc S own (.tup [arg 1 v, arg 2 v]) && isWhole (arg 3 v))))
theorem is_cell_ok (o : S.Ok) (p : Pln v) : callS T (k + 5) n_is_cell [S.fr, v, .tup (own.map .str)] h = some (.bl (cel S own v), h) := by
  rw [c_is_cell]
  cases e : isTup v with
  | false => simp [b_is_cell, p.kd, e, fin_rt, cel]
  | true =>
    cases v <;> first | cases e | skip
    rename_i l
    by_cases e1 : l.length = 4
    · obtain ⟨a, b, c, d, rfl⟩ := four e1
      have pa := p.tup a (by simp)
      have pb := p.tup b (by simp)
      have pc := p.tup c (by simp)
      have pd := p.tup d (by simp)
      have pp : Pln (.tup [b, c]) := pln_tup fun x hx => by
        rcases List.mem_cons.mp hx with e | hx
        · exact e ▸ pb
        · rcases List.mem_cons.mp hx with e | hx
          · exact e ▸ pc
          · cases hx
      have cu : cutL [a, b, c, d] (some 1) (some 3) = [b, c] := cut_mid (l := [a, b, c, d]) (n := 1) (m := 3) (by decide) (by simp)
      have hk := hk_arr (k := k + 2) (h := h) o pa
      cases e2 : (isStr a && decide (strOf a ∈ S.an)) with
      | false => simp [b_is_cell, hk, e2, fin_rt, cel, isTup, items, arg]
      | true =>
        cases e3 : plc S own (.tup [b, c]) <;> simp [b_is_cell, hk, e2, cu, is_position_ok o pp, is_integer_ok pd, e3, fin_rt, cel, isTup, items, arg]
    · simp [b_is_cell, e1, show ¬ (l.length : Int) = 4 by omega, fin_rt, cel, items]
def wrd (S : Sd) (v : PV) : Bool := isTup v && ((items v).length == 2 && (isStr (arg 0 v) && ((decide (strOf (arg 0 v) = []) || decide (strOf (arg 0 v) ∈ S.V)) && isWhole (arg 1 v))))
def wor (S : Sd) (own : List Tx) (v : PV) : Bool := cel S own v || wrd S v
theorem is_value_ok (o : S.Ok) (p : Pln v) : callS T (k + 6) n_is_value [S.fr, v, .tup (own.map .str)] h = some (.bl (wor S own v), h) := by
  rw [c_is_value]
  have ce := is_cell_ok (k := k) (h := h) (own := own) o p
  unfold wor
  cases e0 : cel S own v with
  | true => simp [b_is_value, ce, e0, fin_rt]
  | false =>
    cases e : isTup v with
    | false => simp [b_is_value, ce, e0, p.kd, e, fin_rt, wrd]
    | true =>
      cases v <;> first | cases e | skip
      rename_i l
      by_cases e1 : l.length = 2
      · obtain ⟨a, b, rfl⟩ := two e1
        have pa := p.tup a (by simp)
        have pb := p.tup b (by simp)
        cases e2 : isStr a with
        | false => simp [b_is_value, ce, e0, pa.kd, e2, fin_rt, wrd, items, arg]
        | true =>
          cases a <;> first | cases e2 | skip
          rename_i x
          have hk := hk_val (k := k + 3) (h := h) o pa
          simp only [strOf, isStr, Bool.true_and] at hk
          by_cases e3 : x = []
          · subst e3
            simp [b_is_value, ce, e0, is_integer_ok pb, fin_rt, wrd, items, arg, strOf, isTup, isStr]
          · by_cases e4 : x ∈ S.V <;> simp [b_is_value, ce, e0, e3, e4, hk, is_integer_ok pb, fin_rt, wrd, items, arg, strOf, isTup, isStr]
      · simp [b_is_value, ce, e0, e1, show ¬ (l.length : Int) = 2 by omega, fin_rt, wrd, items]
theorem is_value0_ok (o : S.Ok) (p : Pln v) : callS T (k + 6) n_is_value [S.fr, v] h = some (.bl (wor S [] v), h) := is_value_ok (own := []) o p
end
end k05

set_option maxRecDepth 100000
namespace k05
open Lt PySem
def hdv (w : Tx) (n : Nat) (v : PV) : Bool := isTup v && ((items v).length == n && (isStr (arg 0 v) && decide (strOf (arg 0 v) = w)))
def joined (v : PV) : Bool := (hdv [97, 110, 100] 2 v || hdv [111, 114] 2 v) && isTup (arg 1 v)
def opOk (ops : List Tx) (v : PV) : Bool := isStr v && decide (strOf v ∈ ops)
theorem hdv_eq {w : Tx} {n : Nat} {v : PV} (e : hdv w (n + 1) v = true) : ∃ l, v = .tup (.str w :: l) ∧ l.length = n := by
  unfold hdv at e
  simp only [Bool.and_eq_true, decide_eq_true_eq, beq_iff_eq] at e
  obtain ⟨e1, e2, e3, e4⟩ := e
  cases v <;> first | cases e1 | skip
  rename_i l
  cases l with
  | nil => cases e2
  | cons a l =>
    cases a <;> first | cases e3 | skip
    exact ⟨l, by rw [show w = _ from e4.symm]; rfl, by simpa [items] using e2⟩
theorem joined_eq {v : PV} (e : joined v = true) : ∃ w ps, v = .tup [.str w, .tup ps] := by
  unfold joined at e
  rw [Bool.and_eq_true, Bool.or_eq_true] at e
  obtain ⟨e1, e2⟩ := e
  have : ∃ w, hdv w 2 v = true := e1.elim (fun e => ⟨_, e⟩) fun e => ⟨_, e⟩
  obtain ⟨w, e1⟩ := this
  obtain ⟨l, rfl, hl⟩ := hdv_eq e1
  cases l with
  | nil => cases hl
  | cons a l =>
    have : l = [] := List.length_eq_zero_iff.mp (by simpa using hl)
    subst this
    have e2 : isTup a = true := e2
    cases a <;> first | cases e2 | skip
    exact ⟨w, _, rfl⟩
theorem hdv_two {w : Tx} {v : PV} (e : hdv w 2 v = true) : ∃ a, v = .tup [.str w, a] := by
  obtain ⟨l, rfl, hl⟩ := hdv_eq e
  match l, hl with
  | [a], _ => exact ⟨a, rfl⟩
theorem hdv_four {w : Tx} {v : PV} (e : hdv w 4 v = true) : ∃ a b c, v = .tup [.str w, a, b, c] := by
  obtain ⟨l, rfl, hl⟩ := hdv_eq e
  match l, hl with
  | [a, b, c], _ => exact ⟨a, b, c, rfl⟩
section
variable {k : Nat} {h : PH} {S : Sd} {x c w : Tx} {v : PV} {own : List Tx}
theorem has_shape_ok {n : Nat} (p : Pln v) (hn : 0 < n) : callS T (k + 1) n_has_shape [v, .str w, .int n] h = some (.bl (hdv w n v), h) := by
  rw [c_has_shape]
  cases e : isTup v with
  | false => simp [b_has_shape, p.kd, e, fin_rt, hdv]
  | true =>
    cases v <;> first | cases e | skip
    rename_i l
    by_cases e1 : l.length = n
    · cases l with
      | nil => simp at e1; omega
      | cons a l =>
        have pa := p.tup a (by simp)
        cases e2 : isStr a with
        | false => simp [b_has_shape, ← e1, pa.kd, e2, fin_rt, hdv, items, arg]
        | true =>
          cases a <;> first | cases e2 | skip
          simp [b_has_shape, ← e1, fin_rt, hdv, items, arg, isStr, strOf, isTup]
    · simp [b_has_shape, e1, show ¬ (l.length : Int) = n by omega, fin_rt, hdv, items]
theorem starts_ok {n : Nat} (p : Pln v) (hn : 0 < n) : callS T (k + 1) n_u_law_starts [v, .str w, .int n] h = some (.bl (hdv w n v), h) := by
  rw [c_u_law_starts]
  cases e : isTup v with
  | false => simp [b_u_law_starts, p.kd, e, fin_rt, hdv]
  | true =>
    cases v <;> first | cases e | skip
    rename_i l
    by_cases e1 : l.length = n
    · cases l with
      | nil => simp at e1; omega
      | cons a l =>
        have pa := p.tup a (by simp)
        cases e2 : isStr a with
        | false => simp [b_u_law_starts, ← e1, pa.kd, e2, fin_rt, hdv, items, arg]
        | true =>
          cases a <;> first | cases e2 | skip
          simp [b_u_law_starts, ← e1, fin_rt, hdv, items, arg, isStr, strOf, isTup]
    · simp [b_u_law_starts, e1, show ¬ (l.length : Int) = n by omega, fin_rt, hdv, items]
theorem has2 (p : Pln v) : callS T (k + 1) n_has_shape [v, .str w, .int 2] h = some (.bl (hdv w 2 v), h) := has_shape_ok (n := 2) p (by decide)
theorem has4 (p : Pln v) : callS T (k + 1) n_has_shape [v, .str w, .int 4] h = some (.bl (hdv w 4 v), h) := has_shape_ok (n := 4) p (by decide)
theorem st2 (p : Pln v) : callS T (k + 1) n_u_law_starts [v, .str w, .int 2] h = some (.bl (hdv w 2 v), h) := starts_ok (n := 2) p (by decide)
theorem st4 (p : Pln v) : callS T (k + 1) n_u_law_starts [v, .str w, .int 4] h = some (.bl (hdv w 4 v), h) := starts_ok (n := 4) p (by decide)
theorem is_joined_ok (p : Pln v) : callS T (k + 2) n_is_joined [v] h = some (.bl (joined v), h) := by
  rw [c_is_joined]
  have go : (hdv [97, 110, 100] 2 v || hdv [111, 114] 2 v) = true → ∃ w a, v = .tup [.str w, a] := fun e => by
    rcases (Bool.or_eq_true _ _).mp e with e | e
    · exact ⟨_, hdv_two e⟩
    · exact ⟨_, hdv_two e⟩
  unfold joined
  cases e1 : hdv [97, 110, 100] 2 v with
  | true =>
    obtain ⟨a, rfl⟩ := hdv_two e1
    have pa := p.tup a (by simp)
    simp [b_is_joined, has2 p, e1, pa.kd, fin_rt, arg, items]
  | false =>
    cases e2 : hdv [111, 114] 2 v with
    | true =>
      obtain ⟨a, rfl⟩ := hdv_two e2
      have pa := p.tup a (by simp)
      simp [b_is_joined, has2 p, e1, e2, pa.kd, fin_rt, arg, items]
    | false => simp [b_is_joined, has2 p, e1, e2, fin_rt]
theorem are_joined_ok (p : Pln v) : callS T (k + 1) n_u_law_are_joined [v] h = some (.bl (joined v), h) := by
  rw [c_u_law_are_joined]
  cases e : isTup v with
  | false => simp [b_u_law_are_joined, p.kd, e, fin_rt, joined, hdv]
  | true =>
    cases v <;> first | cases e | skip
    rename_i l
    by_cases e1 : l.length = 2
    · obtain ⟨a, b, rfl⟩ := two e1
      have pa := p.tup a (by simp)
      have pb := p.tup b (by simp)
      cases e2 : isStr a with
      | false => simp [b_u_law_are_joined, pa.kd, e2, fin_rt, joined, hdv, items, arg]
      | true =>
        cases a <;> first | cases e2 | skip
        rename_i x
        have an := anyEq_strs (x := x) (l := [.str [97, 110, 100], .str [111, 114]]) [[97, 110, 100], [111, 114]] rfl
        by_cases e3 : x = [97, 110, 100]
        · subst e3
          simp [b_u_law_are_joined, lstV_ok, an, pb.kd, fin_rt, joined, hdv, items, arg, isTup, isStr, strOf]
        · by_cases e4 : x = [111, 114]
          · subst e4
            simp [b_u_law_are_joined, lstV_ok, an, pb.kd, fin_rt, joined, hdv, items, arg, isTup, isStr, strOf]
          · simp [b_u_law_are_joined, lstV_ok, an, e3, e4, pb.kd, fin_rt, joined, hdv, items, arg, isTup, isStr, strOf]
    · simp [b_u_law_are_joined, e1, show ¬ (l.length : Int) = 2 by omega, fin_rt, joined, hdv, items]
theorem is_op_ok {ops : List Tx} (p : Pln v) : callS T (k + 1) n_is_op [v, .tup (ops.map .str)] h = some (.bl (opOk ops v), h) := by
  rw [c_is_op]
  cases e : isStr v with
  | false => simp [b_is_op, p.kd, e, fin_rt, opOk]
  | true =>
    cases v <;> first | cases e | skip
    simp [b_is_op, fin_rt, opOk, isStr, strOf]
    exact decide_eq_decide.mpr Iff.rfl
theorem law_op_ok {ops : List Tx} (p : Pln v) : callS T (k + 1) n_u_law_is_op [v, .lst (ops.map .str)] h = some (.bl (opOk ops v), h) := by
  rw [c_u_law_is_op]
  cases e : isStr v with
  | false => simp [b_u_law_is_op, p.kd, e, fin_rt, opOk]
  | true =>
    cases v <;> first | cases e | skip
    simp [b_u_law_is_op, fin_rt, opOk, isStr, strOf]
    exact decide_eq_decide.mpr Iff.rfl
end
end k05

set_option maxRecDepth 100000
namespace k05
open Lt PySem
section
variable {k : Nat} {h : PH} {S : Sd} {x c w : Tx} {v : PV} {own : List Tx}
def fresh1 (S : Sd) (v : PV) : Bool := isName v && !decide (strOf v ∈ S.all)
theorem is_fresh_ok (p : Pln v) : callS T (k + 2) n_Frame_is_fresh [S.fr, v] h = some (.bl (fresh1 S v), h) := by
  unfold fresh1
  rw [c_Frame_is_fresh]
  cases e : isName v with
  | false => simp [b_Frame_is_fresh, is_name_ok p, e, fin_rt]
  | true =>
    cases v <;> first | cases e | skip
    rename_i x
    have hk : hasK S.kk (.inr x) = decide (x ∈ S.all) := by
      rw [Bool.eq_iff_iff, hasK_iff, decide_eq_true_iff]
      unfold Sd.kk
      simp
    simp [b_Frame_is_fresh, is_name_ok p, e, Sd.fr, inV, toDK, hk, fin_rt, strOf]
    exact decide_eq_decide.mpr Iff.rfl
def allT (l : List PV) : List Tx := l.map strOf
def dist (l : List Tx) : Bool := decide ((nubS l).length = l.length)
def oneTwo (n : Nat) : Bool := decide (n = 1) || decide (n = 2)
def ownOk (S : Sd) (v : PV) : Bool := isTup v && (oneTwo (items v).length && ((items v).all (fresh1 S) && dist (allT (items v))))
theorem name_str {x : PV} (e : isName x = true) : isStr x = true := by cases x <;> first | rfl | cases e
theorem are_own_ok (p : Pln v) : callS T (k + 3) n_are_own [S.fr, v] h = some (.bl (ownOk S v), h) := by
  rw [c_are_own]
  cases e : isTup v with
  | false => simp [b_are_own, p.kd, e, fin_rt, ownOk]
  | true =>
    cases v <;> first | cases e | skip
    rename_i l
    have H : lcL (.name 2) tYe (xMeth 0 (callS T (k + 2) n_Frame_is_fresh) (xV 0) (aC (xV 2) aN)) [some S.fr, some (.tup l), none] l h = some (l.map fun x => .bl (fresh1 S x), h) :=
      lcL_map _ _ fun x hx => ⟨[some S.fr, some (.tup l), some x], rfl, by
        have f := is_fresh_ok (k := k) (h := h) (S := S) (p.tup x hx)
        simp only [Sd.fr] at f ⊢
        simp [f]⟩
    by_cases e1 : 1 ≤ l.length
    · by_cases e2 : l.length ≤ 2
      · have el : oneTwo l.length = true := by unfold oneTwo; simp only [Bool.or_eq_true, decide_eq_true_eq]; omega
        cases e3 : l.all (fresh1 S) with
        | false =>
          simp only [ownOk, items, e3]
          simp [b_are_own, show (1 : Int) ≤ l.length by omega, show (l.length : Int) ≤ 2 by omega, H, all_map, e3, fin_rt]
        | true =>
          have hs : strsV l = some (allT l) := by
            have := strs_of (l := l) fun x hx => by
              have := List.all_eq_true.mp e3 x hx
              unfold fresh1 at this
              rw [Bool.and_eq_true] at this
              exact name_str this.1
            rw [this, strsV_map]
            unfold allT
            rw [← this]
          have hlen : (allT l).length = l.length := List.length_map ..
          simp [b_are_own, show (1 : Int) ≤ l.length by omega, show (l.length : Int) ≤ 2 by omega, H, all_map, e3, hs, hlen, show l.length + 1 < 4096 by omega, fin_rt, ownOk, items, el, isTup, dist]
          omega
      · simp [b_are_own, show (1 : Int) ≤ l.length by omega, show ¬ (l.length : Int) ≤ 2 by omega, fin_rt, ownOk, items, oneTwo, show ¬ l.length = 1 by omega, show ¬ l.length = 2 by omega]
    · simp [b_are_own, show ¬ (1 : Int) ≤ l.length by omega, fin_rt, ownOk, items, oneTwo, show ¬ l.length = 1 by omega, show ¬ l.length = 2 by omega]
theorem all_names_ok (z : S.A.length ≤ 12) (z1 : S.P.length ≤ 6) (z2 : S.V.length ≤ 6) : callS T (k + 1) n_u_law_all_names [S.v] h = some (.lst ((S.an ++ (S.ln ++ (S.P ++ S.V))).map .str), h) := by
  have H1 : ∀ s : Sl, s.length = 2 → lcL (.name 1) tYe (xIx (xV 1) (xC (.int 0))) s (S.A.map pr) h = some (S.A.map fun p => .str p.1, h) := fun s e => lcL_g _ _ fun p _ => ⟨s.set 1 (some (pr p)), rfl, by simp [e, pr]⟩
  have H2 : ∀ s : Sl, s.length = 2 → lcL (.name 1) tYe (xIx (xV 1) (xC (.int 1))) s (S.A.map pr) h = some (S.A.map fun p => .str p.2, h) := fun s e => lcL_g _ _ fun p _ => ⟨s.set 1 (some (pr p)), rfl, by simp [e, pr]⟩
  rw [c_u_law_all_names]
  simp [b_u_law_all_names, Sd.v, H1, H2, op_addL, fin_rt, show S.A.length + S.A.length ≤ 4096 by omega, show S.A.length + (S.A.length + S.P.length) ≤ 4096 by omega, show S.A.length + (S.A.length + S.P.length) + S.V.length ≤ 4096 by omega, show S.A.length + S.A.length + S.P.length ≤ 4096 by omega, Sd.an, Sd.ln, Function.comp_def]
theorem mem_all : x ∈ S.an ++ (S.ln ++ (S.P ++ S.V)) ↔ x ∈ S.all := by
  unfold Sd.all
  simp only [List.mem_append, dd_mem]
theorem law_own_ok (o : S.Ok) (p : Pln v) : callS T (k + 2) n_u_law_are_own [S.v, v] h = some (.bl (ownOk S v), h) := by
  rw [c_u_law_are_own]
  cases e : isTup v with
  | false => simp [b_u_law_are_own, p.kd, e, fin_rt, ownOk]
  | true =>
    cases v <;> first | cases e | skip
    rename_i l
    have an12 := anyEq_ints (x := (l.length : Int)) (l := [.int 1, .int 2]) [1, 2] rfl
    have ot : decide ((l.length : Int) ∈ [(1 : Int), 2]) = oneTwo l.length := by
      unfold oneTwo
      rw [Bool.eq_iff_iff]
      simp only [decide_eq_true_eq, List.mem_cons, List.not_mem_nil, or_false, Bool.or_eq_true]
      omega
    rw [ot] at an12
    cases e1 : oneTwo l.length with
    | false => simp [b_u_law_are_own, lstV_ok, an12, e1, fin_rt, ownOk, items]
    | true =>
      have z : l.length ≤ 2 := by
        unfold oneTwo at e1
        simp only [Bool.or_eq_true, decide_eq_true_eq] at e1
        omega
      have F := forL_all (tg := .name 2) (body := sIf (tBo false (tNt (tTr (xIsi "str" (xV 2)))) (tBo false (tTr (xCmp .eq (xV 2) (xC (.str [])))) (tBo false (tTr (xCmp .gt (xCall (biV .len) (aC (xV 2) aN)) (xC (.int 8)))) (tB1 false (tTr (xCmp .ne (xMe .strip (xV 2) (aC (xC (.str letters)) aN)) (xC (.str [])))))))) (sRt (xC (.bl false))) sNx) (h := h) (v := .bl false) isName (fun s => ∃ a, s = [some S.v, some (.tup l), a]) l [some S.v, some (.tup l), none] ⟨_, rfl⟩ (by
        rintro x hx s ⟨a, rfl⟩
        have px := p.tup x hx
        refine ⟨[some S.v, some (.tup l), some x], rfl, ⟨_, rfl⟩, ?_⟩
        cases e2 : isStr x with
        | false =>
          have : isName x = false := by cases x <;> first | rfl | cases e2
          simp [px.kd, e2, this]
        | true =>
          cases x <;> first | cases e2 | skip
          rename_i x
          by_cases e3 : x = []
          · subst e3
            simp [isName, nameT]
          · have e4 : 1 ≤ x.length := List.length_pos_iff.mpr e3
            by_cases e5 : x.length ≤ 8
            · by_cases e6 : ∀ c ∈ x, c ∈ letters
              · have e7 : x.all (fun c => decide (c ∈ letters)) = true := List.all_eq_true.mpr fun c hc => decide_eq_true (e6 c hc)
                simp [isName, nameT, e3, e4, e5, e7, stripV_nil.mpr e6, show ¬ (8 < (x.length : Int)) by omega]
              · have e7 : x.all (fun c => decide (c ∈ letters)) = false := by
                  rw [Bool.eq_false_iff]
                  exact fun e => e6 fun c hc => of_decide_eq_true (List.all_eq_true.mp e c hc)
                have e8 : ¬ stripV x letters = [] := fun e => e6 (stripV_nil.mp e)
                simp [isName, nameT, e3, e4, e5, e7, e8, show ¬ (8 < (x.length : Int)) by omega]
            · simp [isName, nameT, e3, e5, show (8 < (x.length : Int)) by omega])
      rw [show letters = ([97, 98, 99, 100, 101, 102, 103, 104, 105, 106, 107, 108, 109, 110, 111, 112, 113, 114, 115, 116, 117, 118, 119, 120, 121, 122] : Tx) from rfl] at F
      cases e2 : l.all isName with
      | false =>
        have : l.all (fresh1 S) = false := by
          rw [Bool.eq_false_iff] at e2 ⊢
          intro e
          refine e2 (List.all_eq_true.mpr fun x hx => ?_)
          have := List.all_eq_true.mp e x hx
          unfold fresh1 at this
          rw [Bool.and_eq_true] at this
          exact this.1
        simp only [ownOk, items, this]
        simp [b_u_law_are_own, lstV_ok, an12, e1, F.2 e2, fin_rt]
      | true =>
        obtain ⟨s', F1, a, rfl⟩ := F.1 e2
        have hs : l = (allT l).map .str := strs_of fun x hx => name_str (List.all_eq_true.mp e2 x hx)
        have hlen : (allT l).length = l.length := List.length_map ..
        have hst : strsV l = some (allT l) := by rw [hs, strsV_map, ← hs]
        have an := all_names_ok (k := k) (h := h) o.a o.p o.v
        have G : lcL (.name 2) (tTr (xCmp .in_ (xV 2) (xCall (callS T (k + 1) n_u_law_all_names) (aC (xV 0) aN)))) (xV 2) [some S.v, some (.tup l), a] l h = some ((l.filter fun x => !fresh1 S x).map id, h) :=
          lcL_pure _ _ _ fun x hx => ⟨[some S.v, some (.tup l), some x], rfl, by
            have px := List.all_eq_true.mp e2 x hx
            cases x <;> first | cases px | skip
            rename_i x
            have ma := mem_all (S := S) (x := x)
            by_cases e3 : x ∈ S.all
            · simp [an, fresh1, strOf, e3, ma.mpr e3, -List.mem_append, -List.map_append]
            · have e4 : ¬ x ∈ S.an ++ (S.ln ++ (S.P ++ S.V)) := fun e => e3 (ma.mp e)
              have px : isName (.str x) = true := px
              simp [an, fresh1, strOf, e3, e4, px, -List.mem_append, -List.map_append], fun _ => by simp⟩
        simp [b_u_law_are_own, lstV_ok, an12, e1, F1, hst, hlen, show l.length + 1 < 4096 by omega, G, none_of]
        simp only [ownOk, items, e1, isTup, Bool.true_and, dist, hlen]
        by_cases e3 : (nubS (allT l)).length = l.length
        · simp [e3, fin_rt]
        · simp [e3, show ¬ ((nubS (allT l)).length : Int) = l.length by omega, fin_rt]
end
end k05

set_option maxRecDepth 100000
namespace k05
open Lt PySem
section
variable {k : Nat} {h : PH} {S : Sd} {x c w : Tx} {v : PV} {own : List Tx}
@[simp] theorem ix_v0 : ixV h S.v (.int 0) = some (.ptup (S.A.map pr)) := rfl
@[simp] theorem ix_v1 : ixV h S.v (.int 1) = some (.tup (S.P.map .str)) := rfl
@[simp] theorem ix_v2 : ixV h S.v (.int 2) = some (.tup (S.V.map .str)) := rfl
def pnames (S : Sd) : List Tx := [] :: (S.P ++ sortS (nubS S.ln))
theorem place_names_ok (o : S.Ok) : callS T (k + 1) n_u_law_place_names [S.v] h = some (.lst ((pnames S).map .str), h) := by
  have H2 : ∀ s : Sl, s.length = 2 → lcL (.name 1) tYe (xIx (xV 1) (xC (.int 1))) s (S.A.map pr) h = some (S.A.map fun p => .str p.2, h) := fun s e => lcL_g _ _ fun p _ => ⟨s.set 1 (some (pr p)), rfl, by simp [e, pr]⟩
  have ha := o.a
  have hp := o.p
  have e2 : (S.A.map fun p => PV.str p.2) = S.ln.map .str := by unfold Sd.ln; rw [List.map_map]; rfl
  rw [e2] at H2
  have hl : S.ln.length = S.A.length := List.length_map ..
  have hs : (sortS (nubS S.ln)).length ≤ 12 := by
    rw [sortS_len']
    exact Nat.le_trans nubS_len (by omega)
  rw [c_u_law_place_names]
  simp [b_u_law_place_names, Sd.v, H2, op_addL, lstV_ok, strsV_map, hl, fin_rt, show S.A.length < 64 by omega, show 1 + S.P.length ≤ 4096 by omega, show S.P.length + 1 ≤ 4096 by omega, show S.P.length + 1 + (sortS (nubS S.ln)).length ≤ 4096 by omega, pnames]
theorem mem_pnames : (decide (x ∈ pnames S) || decide (x ∈ own)) = pname S own (.str x) := by
  unfold pnames pname
  rw [Bool.eq_iff_iff]
  simp only [Bool.or_eq_true, decide_eq_true_eq, List.mem_cons, List.mem_append, sortS_mem', nubS_mem]
  constructor
  · rintro ((e | e | e) | e) <;> simp [e]
  · rintro (e | e | e | e) <;> simp [e]
theorem law_place_ok (o : S.Ok) (zo : own.length ≤ 1000) (p : Pln v) : callS T (k + 2) n_u_law_is_place [S.v, v, .tup (own.map .str)] h = some (.bl (plc S own v), h) := by
  rw [c_u_law_is_place]
  cases e : isTup v with
  | false => simp [b_u_law_is_place, p.kd, e, fin_rt, plc]
  | true =>
    cases v <;> first | cases e | skip
    rename_i l
    by_cases e1 : l.length = 2
    · obtain ⟨a, b, rfl⟩ := two e1
      have pa := p.tup a (by simp)
      have pb := p.tup b (by simp)
      cases e2 : isStr a with
      | false =>
        have : pname S own a = false := by cases a <;> first | rfl | cases e2
        simp [b_u_law_is_place, pa.kd, e2, fin_rt, plc, items, arg, this]
      | true =>
        cases a <;> first | cases e2 | skip
        rename_i x
        have hp := o.p
        have ha := o.a
        have hl : S.ln.length = S.A.length := List.length_map ..
        have hs : (sortS (nubS S.ln)).length ≤ 12 := by
          rw [sortS_len']
          exact Nat.le_trans nubS_len (by omega)
        have hz : (pnames S).length ≤ 100 := by
          unfold pnames
          rw [List.length_cons, List.length_append]
          omega
        have an := anyEq_str (x := x) (l := pnames S ++ own)
        have me : decide (x ∈ pnames S ++ own) = pname S own (.str x) := by
          rw [← mem_pnames, Bool.eq_iff_iff]
          simp
        rw [me, List.map_append] at an
        cases e3 : pname S own (.str x) <;> simp [b_u_law_is_place, place_names_ok o, op_addL, an, e3, show (pnames S).length + own.length ≤ 4096 by omega, law_whole_ok pb, fin_rt, plc, items, arg, isTup]
    · simp [b_u_law_is_place, e1, show ¬ (l.length : Int) = 2 by omega, fin_rt, plc, items]
/-- a value term of a body -/
def isZero : PV → Bool
  | .int i => decide (i = 0)
  | _ => false
def inOwn (own : List Tx) (v : PV) : Bool := decide (strOf v ∈ own)
def bterm (S : Sd) (own : List Tx) (v : PV) : Bool := wrd S v || (cel S own v && (!inOwn own (arg 1 v) || isZero (arg 2 v)))
theorem pairs_pr : ∀ A : List (Tx × Tx), pairsV (A.map pr) = some (A.map fun p => .inr p.1, A.map fun p => .str p.2)
  | [] => rfl
  | p :: A => by
    have ih := pairs_pr A
    simp only [List.map_cons, pr, pairsV, toDK, ih]
theorem plc_str {a b : PV} (e : plc S own (.tup [a, b]) = true) : isStr a = true ∧ ∃ i, b = .int i := by
  unfold plc at e
  simp only [items, arg, Bool.and_eq_true] at e
  obtain ⟨_, _, e1, e2⟩ := e
  have e1 : pname S own a = true := e1
  have e2 : isWhole b = true := e2
  constructor
  · cases a <;> first | rfl | cases e1
  · cases b <;> first | exact ⟨_, rfl⟩ | cases e2
theorem law_worth_ok (o : S.Ok) (zo : own.length ≤ 1000) (p : Pln v) : callS T (k + 3) n_u_law_is_worth [S.v, v, .tup (own.map .str)] h = some (.bl (bterm S own v), h) := by
  rw [c_u_law_is_worth]
  cases e : isTup v with
  | false => simp [b_u_law_is_worth, p.kd, e, fin_rt, bterm, wrd, cel]
  | true =>
    cases v <;> first | cases e | skip
    rename_i l
    have an24 := anyEq_ints (x := (l.length : Int)) (l := [.int 2, .int 4]) [2, 4] rfl
    by_cases e1 : l.length = 2
    · obtain ⟨a, b, rfl⟩ := two e1
      have pa := p.tup a (by simp)
      have pb := p.tup b (by simp)
      have c0 : cel S own (.tup [a, b]) = false := by simp [cel, items]
      cases e2 : isStr a with
      | false =>
        simp at an24
        simp [b_u_law_is_worth, lstV_ok, an24, pa.kd, e2, fin_rt, bterm, wrd, c0, items, arg]
      | true =>
        cases a <;> first | cases e2 | skip
        rename_i x
        have hv := o.v
        have an := anyEq_str (x := x) (l := [] :: S.V)
        have me : decide (x ∈ ([] : Tx) :: S.V) = (decide (x = []) || decide (x ∈ S.V)) := by
          rw [Bool.eq_iff_iff]
          simp
        rw [me, List.map_cons] at an
        simp at an24
        cases e3 : (decide (x = []) || decide (x ∈ S.V)) <;> simp [b_u_law_is_worth, lstV_ok, an24, op_addL, an, e3, show 1 + S.V.length ≤ 4096 by omega, show S.V.length + 1 ≤ 4096 by omega, law_whole_ok pb, fin_rt, bterm, wrd, c0, items, arg, isTup, isStr, strOf]
    · by_cases e4 : l.length = 4
      · obtain ⟨a, b, c, d, rfl⟩ := four e4
        have pa := p.tup a (by simp)
        have pb := p.tup b (by simp)
        have pc := p.tup c (by simp)
        have pd := p.tup d (by simp)
        have w0 : wrd S (.tup [a, b, c, d]) = false := by simp [wrd, items]
        simp at an24
        cases e2 : isStr a with
        | false => simp [b_u_law_is_worth, lstV_ok, an24, pa.kd, e2, fin_rt, bterm, w0, cel, items, arg]
        | true =>
          cases a <;> first | cases e2 | skip
          rename_i x
          have pp : Pln (.tup [b, c]) := pln_tup fun x hx => by
            rcases List.mem_cons.mp hx with e | hx
            · exact e ▸ pb
            · rcases List.mem_cons.mp hx with e | hx
              · exact e ▸ pc
              · cases hx
          have cu : cutL [.str x, b, c, d] (some 1) (some 3) = [b, c] := cut_mid (l := [.str x, b, c, d]) (n := 1) (m := 3) (by decide) (by simp)
          have nd := (List.nodup_append.mp o.nd).1
          have mg : mergeV [] [] (S.A.map fun p => .inr p.1) (S.A.map fun p => .str p.2) = (S.A.map fun p => .inr p.1, S.A.map fun p => .str p.2) := by
            have := mergeV_new (S.A.map fun p => .inr p.1) (S.A.map fun p => .str p.2) [] [] (by simp) (by
              have := nodup_inr nd
              simpa [Sd.an, Function.comp_def] using this)
            simpa using this
          have hk : hasK (S.A.map fun p => .inr p.1) (.inr x) = decide (x ∈ S.an) := by
            rw [Bool.eq_iff_iff, hasK_iff, decide_eq_true_iff]
            unfold Sd.an
            simp
          have lp := law_place_ok (k := k) (h := h) o zo pp
          by_cases e3 : x ∈ S.an
          · cases e5 : plc S own (.tup [b, c]) with
            | false => simp [b_u_law_is_worth, lstV_ok, an24, dictTV, pairs_pr, mg, inV, toDK, hk, e3, cu, lp, e5, fin_rt, bterm, w0, cel, items, arg]
            | true =>
              obtain ⟨sb, i, rfl⟩ := plc_str e5
              cases b <;> first | cases sb | skip
              rename_i y
              cases e6 : isWhole d with
              | false => simp [b_u_law_is_worth, lstV_ok, an24, dictTV, pairs_pr, mg, inV, toDK, hk, e3, cu, lp, e5, law_whole_ok pd, e6, fin_rt, bterm, w0, cel, items, arg]
              | true =>
                by_cases e7 : y ∈ own
                · simp [b_u_law_is_worth, lstV_ok, an24, dictTV, pairs_pr, mg, inV, toDK, hk, e3, cu, lp, e5, law_whole_ok pd, e6, e7, fin_rt, bterm, w0, cel, items, arg, isTup, isStr, strOf, inOwn, isZero]
                · simp [b_u_law_is_worth, lstV_ok, an24, dictTV, pairs_pr, mg, inV, toDK, hk, e3, cu, lp, e5, law_whole_ok pd, e6, e7, fin_rt, bterm, w0, cel, items, arg, isTup, isStr, strOf, inOwn]
          · simp [b_u_law_is_worth, lstV_ok, an24, dictTV, pairs_pr, mg, inV, toDK, hk, e3, fin_rt, bterm, w0, cel, items, arg, strOf]
      · have : decide ((l.length : Int) ∈ [(2 : Int), 4]) = false := by
          rw [decide_eq_false_iff_not]
          simp only [List.mem_cons, List.not_mem_nil, or_false]
          omega
        rw [this] at an24
        simp [b_u_law_is_worth, lstV_ok, an24, fin_rt, bterm, wrd, cel, items, e1, e4]
end
end k05

set_option maxRecDepth 100000
namespace k05
open Lt PySem
section
variable {k : Nat} {h : PH} {S : Sd} {x c w : Tx} {v : PV} {own : List Tx}
theorem plc_tup (e : plc S own v = true) : ∃ y i, v = .tup [.str y, .int i] := by
  have e0 := e
  unfold plc at e
  simp only [Bool.and_eq_true, beq_iff_eq] at e
  obtain ⟨e1, e2, _⟩ := e
  cases v <;> first | cases e1 | skip
  obtain ⟨a, b, rfl⟩ := two e2
  obtain ⟨sa, i, rfl⟩ := plc_str e0
  cases a <;> first | cases sa | skip
  exact ⟨_, _, rfl⟩
theorem cel_tup (e : cel S own v = true) : ∃ x y i d, v = .tup [.str x, .str y, .int i, d] := by
  unfold cel at e
  simp only [Bool.and_eq_true, beq_iff_eq] at e
  obtain ⟨e1, e2, ⟨e3, _⟩, e4, _⟩ := e
  cases v <;> first | cases e1 | skip
  obtain ⟨a, b, c, d, rfl⟩ := four e2
  have e3 : isStr a = true := e3
  obtain ⟨sb, i, ec⟩ := plc_str e4
  have sb : isStr b = true := sb
  have ec : c = .int i := ec
  subst ec
  cases a <;> first | cases e3 | skip
  cases b <;> first | cases sb | skip
  exact ⟨_, _, _, _, rfl⟩
theorem wrd_tup (e : wrd S v = true) : ∃ a b, v = .tup [a, b] := by
  unfold wrd at e
  simp only [Bool.and_eq_true, beq_iff_eq] at e
  obtain ⟨e1, e2, _⟩ := e
  cases v <;> first | cases e1 | skip
  obtain ⟨a, b, rfl⟩ := two e2
  exact ⟨a, b, rfl⟩
def gterm (S : Sd) (own : List Tx) (v : PV) : Bool := plc S own v && (!inOwn own (arg 0 v) || isZero (arg 1 v))
theorem is_guard_term_ok (o : S.Ok) (p : Pln v) : callS T (k + 5) n_is_guard_term [S.fr, .tup (own.map .str), v] h = some (.bl (gterm S own v), h) := by
  rw [c_is_guard_term]
  have h1 := is_position_ok (k := k) (h := h) (own := own) o p
  cases e : plc S own v with
  | false => simp [b_is_guard_term, h1, e, fin_rt, gterm]
  | true =>
    obtain ⟨y, i, rfl⟩ := plc_tup e
    by_cases e1 : y ∈ own <;> simp [b_is_guard_term, h1, e, e1, fin_rt, gterm, inOwn, isZero, arg, items, strOf]
theorem is_body_term_ok (o : S.Ok) (p : Pln v) : callS T (k + 7) n_is_body_term [S.fr, .tup (own.map .str), v] h = some (.bl (bterm S own v), h) := by
  rw [c_is_body_term]
  have h1 := is_value_ok (k := k) (h := h) (own := own) o p
  unfold bterm
  unfold wor at h1
  cases e : wrd S v with
  | true =>
    obtain ⟨a, b, rfl⟩ := wrd_tup e
    simp [b_is_body_term, h1, e, fin_rt]
  | false =>
    cases e2 : cel S own v with
    | false => simp [b_is_body_term, h1, e, e2, fin_rt]
    | true =>
      obtain ⟨x, y, i, d, rfl⟩ := cel_tup e2
      by_cases e1 : y ∈ own <;> simp [b_is_body_term, h1, e, e2, e1, fin_rt, inOwn, isZero, arg, items, strOf]
def le' : Tx := [60, 61]
def atomG (S : Sd) (own : List Tx) (v : PV) : Bool := hdv [112, 111, 115] 4 v && (opOk [[60, 61], [61, 61]] (arg 1 v) && (gterm S own (arg 2 v) && (gterm S own (arg 3 v) && (inOwn own (arg 0 (arg 2 v)) || inOwn own (arg 0 (arg 3 v))))))
def ops3 : List Tx := [[60, 61], [60], [61, 61]]
def atomB (S : Sd) (own : List Tx) (v : PV) : Bool := hdv [118, 97, 108] 4 v && (opOk ops3 (arg 1 v) && (bterm S own (arg 2 v) && bterm S own (arg 3 v)))
def atomP (S : Sd) (v : PV) : Bool := hdv [112, 111, 115] 4 v && (opOk ops3 (arg 1 v) && (plc S [] (arg 2 v) && plc S [] (arg 3 v)))
def grd (S : Sd) (own : List Tx) : Nat → PV → Bool
  | 0, _ => false
  | n + 1, v => if joined v = true then (items (arg 1 v)).all (grd S own n) else atomG S own v
def bod (S : Sd) (own : List Tx) : Nat → PV → Bool
  | 0, _ => false
  | n + 1, v => if joined v = true then (items (arg 1 v)).all (bod S own n) else if hdv [110, 111, 116] 2 v = true then bod S own n (arg 1 v) else atomB S own v
def clm (S : Sd) : Nat → PV → Bool
  | 0, _ => false
  | n + 1, v => if joined v = true then (items (arg 1 v)).all (clm S n) else if hdv [110, 111, 116] 2 v = true then clm S n (arg 1 v)
    else if hdv [97, 108, 108] 4 v = true then ownOk S (arg 1 v) && (grd S (allT (items (arg 1 v))) n (arg 2 v) && bod S (allT (items (arg 1 v))) n (arg 3 v))
    else atomP S v || atomB S [] v
theorem all_sub {f : PV → Bool} (xs : List PV) (h : PH) : biV .all [.lst (xs.map fun x => .bl (f x))] h = some (.bl (xs.all f), h) := all_map f xs h
theorem is_guard_in_ok (o : S.Ok) : ∀ (n : Nat) (v : PV) (k : Nat) (h : PH), Pln v → callS T (k + n + 6) n_is_guard_in [S.fr, .tup (own.map .str), v, .int n] h = some (.bl (grd S own n v), h)
  | 0, v, k, h, p => by
    rw [c_is_guard_in]
    simp [b_is_guard_in, fin_rt, grd]
  | n + 1, v, k, h, p => by
    have ih := is_guard_in_ok o n
    rw [show k + (n + 1) + 6 = (k + n + 6) + 1 by omega, c_is_guard_in]
    have hj := is_joined_ok (k := k + n + 4) (h := h) p
    have n1 : ((n : Int) + 1 - 1) = n := by omega
    have n0 : ¬ ((n : Int) + 1 = 0) := by omega
    cases e : joined v with
    | true =>
      obtain ⟨w, ps, rfl⟩ := joined_eq e
      have H : lcL (.name 4) tYe (xCall (callS T (k + n + 6) n_is_guard_in) (aC (xV 0) (aC (xV 1) (aC (xV 4) (aC (xOp .sub (xV 3) (xC (.int 1))) aN))))) [some S.fr, some (.tup (own.map .str)), some (.tup [.str w, .tup ps]), some (.int (n + 1)), none] ps h = some (ps.map fun x => .bl (grd S own n x), h) :=
        lcL_map _ _ fun x hx => ⟨_, rfl, by
          have px : Pln x := (p.tup (.tup ps) (by simp)).tup x hx
          simp [n1, ih x k h px]⟩
      simp [b_is_guard_in, n0, hj, e, H, all_sub, fin_rt, grd, arg, items]
    | false =>
      have hs := has4 (k := k + n + 5) (h := h) (w := [112, 111, 115]) p
      simp only [grd, e]
      cases e1 : hdv [112, 111, 115] 4 v with
      | false => simp [b_is_guard_in, n0, hj, e, hs, e1, fin_rt, atomG]
      | true =>
        obtain ⟨a, b, c, rfl⟩ := hdv_four e1
        have pa := p.tup a (by simp)
        have pb := p.tup b (by simp)
        have pc := p.tup c (by simp)
        have ho := is_op_ok (k := k + n + 5) (h := h) (ops := [[60, 61], [61, 61]]) pa
        have tb := is_guard_term_ok (k := k + n + 1) (h := h) (own := own) o pb
        have tc := is_guard_term_ok (k := k + n + 1) (h := h) (own := own) o pc
        simp only [List.map_cons, List.map_nil] at ho
        cases e2 : opOk [[60, 61], [61, 61]] a with
        | false => simp [b_is_guard_in, n0, hj, e, hs, e1, ho, e2, fin_rt, atomG, arg, items]
        | true =>
          cases e3 : gterm S own b with
          | false => simp [b_is_guard_in, n0, hj, e, hs, e1, ho, e2, tb, e3, fin_rt, atomG, arg, items]
          | true =>
            cases e4 : gterm S own c with
            | false => simp [b_is_guard_in, n0, hj, e, hs, e1, ho, e2, tb, e3, tc, e4, fin_rt, atomG, arg, items]
            | true =>
              have gb := e3
              have gc := e4
              unfold gterm at gb gc
              rw [Bool.and_eq_true] at gb gc
              obtain ⟨y, i, rfl⟩ := plc_tup gb.1
              obtain ⟨y2, i2, rfl⟩ := plc_tup gc.1
              by_cases e5 : y ∈ own <;> simp [b_is_guard_in, n0, hj, e, hs, e1, ho, e2, tb, e3, tc, e4, e5, fin_rt, atomG, arg, items, inOwn, strOf]
end
end k05

set_option maxRecDepth 100000
namespace k05
open Lt PySem
section
variable {k : Nat} {h : PH} {S : Sd} {x c w : Tx} {v : PV} {own : List Tx}
theorem is_body_in_ok (o : S.Ok) : ∀ (n : Nat) (v : PV) (k : Nat) (h : PH), Pln v → callS T (k + n + 8) n_is_body_in [S.fr, .tup (own.map .str), v, .int n] h = some (.bl (bod S own n v), h)
  | 0, v, k, h, p => by
    rw [c_is_body_in]
    simp [b_is_body_in, fin_rt, bod]
  | n + 1, v, k, h, p => by
    have ih := is_body_in_ok o n
    rw [show k + (n + 1) + 8 = (k + n + 8) + 1 by omega, c_is_body_in]
    have hj := is_joined_ok (k := k + n + 6) (h := h) p
    have n1 : ((n : Int) + 1 - 1) = n := by omega
    have n0 : ¬ ((n : Int) + 1 = 0) := by omega
    cases e : joined v with
    | true =>
      obtain ⟨w, ps, rfl⟩ := joined_eq e
      have H : lcL (.name 4) tYe (xCall (callS T (k + n + 8) n_is_body_in) (aC (xV 0) (aC (xV 1) (aC (xV 4) (aC (xOp .sub (xV 3) (xC (.int 1))) aN))))) [some S.fr, some (.tup (own.map .str)), some (.tup [.str w, .tup ps]), some (.int (n + 1)), none] ps h = some (ps.map fun x => .bl (bod S own n x), h) :=
        lcL_map _ _ fun x hx => ⟨_, rfl, by
          have px : Pln x := (p.tup (.tup ps) (by simp)).tup x hx
          simp [n1, ih x k h px]⟩
      simp [b_is_body_in, n0, hj, e, H, all_sub, fin_rt, bod, arg, items]
    | false =>
      have hn := has2 (k := k + n + 7) (h := h) (w := [110, 111, 116]) p
      simp only [bod, e]
      cases e0 : hdv [110, 111, 116] 2 v with
      | true =>
        obtain ⟨a, rfl⟩ := hdv_two e0
        have pa := p.tup a (by simp)
        simp [b_is_body_in, n0, hj, e, hn, e0, n1, ih a k h pa, fin_rt, arg, items]
      | false =>
        have hs := has4 (k := k + n + 7) (h := h) (w := [118, 97, 108]) p
        cases e1 : hdv [118, 97, 108] 4 v with
        | false => simp [b_is_body_in, n0, hj, e, hn, e0, hs, e1, fin_rt, atomB]
        | true =>
          obtain ⟨a, b, c, rfl⟩ := hdv_four e1
          have pa := p.tup a (by simp)
          have pb := p.tup b (by simp)
          have pc := p.tup c (by simp)
          have ho := is_op_ok (k := k + n + 7) (h := h) (ops := ops3) pa
          have tb := is_body_term_ok (k := k + n + 1) (h := h) (own := own) o pb
          have tc := is_body_term_ok (k := k + n + 1) (h := h) (own := own) o pc
          simp only [ops3, List.map_cons, List.map_nil] at ho
          cases e2 : opOk ops3 a with
          | false =>
            rw [show opOk [[60, 61], [60], [61, 61]] a = false from e2] at ho
            simp [b_is_body_in, n0, hj, e, hn, e0, hs, e1, ho, e2, fin_rt, atomB, arg, items]
          | true =>
            rw [show opOk [[60, 61], [60], [61, 61]] a = true from e2] at ho
            cases e3 : bterm S own b <;> simp [b_is_body_in, n0, hj, e, hn, e0, hs, e1, ho, e2, tb, e3, tc, fin_rt, atomB, arg, items]
theorem strs_own (e : ownOk S v = true) : v = .tup ((allT (items v)).map .str) ∧ (allT (items v)).length ≤ 2 := by
  unfold ownOk at e
  simp only [Bool.and_eq_true] at e
  obtain ⟨e1, e2, e3, e4⟩ := e
  cases v <;> first | cases e1 | skip
  clear e4
  rename_i l
  have e3 : l.all (fresh1 S) = true := e3
  have e2 : oneTwo l.length = true := e2
  constructor
  · have := strs_of (l := l) fun x hx => by
      have := List.all_eq_true.mp e3 x hx
      unfold fresh1 at this
      rw [Bool.and_eq_true] at this
      exact name_str this.1
    exact congrArg PV.tup this
  · unfold oneTwo at e2
    simp only [Bool.or_eq_true, decide_eq_true_eq] at e2
    show (l.map strOf).length ≤ 2
    rw [List.length_map]
    omega
theorem is_claim_in_ok (o : S.Ok) : ∀ (n : Nat) (v : PV) (k : Nat) (h : PH), Pln v → callS T (k + n + 9) n_is_claim_in [S.fr, v, .int n] h = some (.bl (clm S n v), h)
  | 0, v, k, h, p => by
    rw [c_is_claim_in]
    simp [b_is_claim_in, fin_rt, clm]
  | n + 1, v, k, h, p => by
    have ih := is_claim_in_ok o n
    rw [show k + (n + 1) + 9 = (k + n + 9) + 1 by omega, c_is_claim_in]
    have hj := is_joined_ok (k := k + n + 7) (h := h) p
    have n1 : ((n : Int) + 1 - 1) = n := by omega
    have n0 : ¬ ((n : Int) + 1 = 0) := by omega
    cases e : joined v with
    | true =>
      obtain ⟨w, ps, rfl⟩ := joined_eq e
      have H : lcL (.name 3) tYe (xCall (callS T (k + n + 9) n_is_claim_in) (aC (xV 0) (aC (xV 3) (aC (xOp .sub (xV 2) (xC (.int 1))) aN)))) [some S.fr, some (.tup [.str w, .tup ps]), some (.int (n + 1)), none] ps h = some (ps.map fun x => .bl (clm S n x), h) :=
        lcL_map _ _ fun x hx => ⟨_, rfl, by
          have px : Pln x := (p.tup (.tup ps) (by simp)).tup x hx
          simp [n1, ih x k h px]⟩
      simp [b_is_claim_in, n0, hj, e, H, all_sub, fin_rt, clm, arg, items]
    | false =>
      have hn := has2 (k := k + n + 8) (h := h) (w := [110, 111, 116]) p
      have ha := has4 (k := k + n + 8) (h := h) (w := [97, 108, 108]) p
      have hp := has4 (k := k + n + 8) (h := h) (w := [112, 111, 115]) p
      have hv := has4 (k := k + n + 8) (h := h) (w := [118, 97, 108]) p
      simp only [clm, e]
      cases e0 : hdv [110, 111, 116] 2 v with
      | true =>
        obtain ⟨a, rfl⟩ := hdv_two e0
        have pa := p.tup a (by simp)
        simp [b_is_claim_in, n0, hj, e, hn, e0, n1, ih a k h pa, fin_rt, arg, items]
      | false =>
        cases e1 : hdv [97, 108, 108] 4 v with
        | true =>
          obtain ⟨a, b, c, rfl⟩ := hdv_four e1
          have pa := p.tup a (by simp)
          have pb := p.tup b (by simp)
          have pc := p.tup c (by simp)
          have hall : callS T (k + n + 9) n_is_all_in [S.fr, .tup [.str [97, 108, 108], a, b, c], .int (n + 1)] h = some (.bl (ownOk S a && (grd S (allT (items a)) n b && bod S (allT (items a)) n c)), h) := by
            rw [c_is_all_in]
            have ao := are_own_ok (k := k + n + 5) (h := h) (S := S) pa
            cases e2 : ownOk S a with
            | false => simp [b_is_all_in, ao, e2, fin_rt]
            | true =>
              have es := (strs_own e2).1
              have g := is_guard_in_ok (own := allT (items a)) o n b (k + 2) h pb
              have bd := is_body_in_ok (own := allT (items a)) o n c k h pc
              rw [← es] at g bd
              rw [show k + 2 + n + 6 = k + n + 8 by omega] at g
              cases e3 : grd S (allT (items a)) n b <;> simp [b_is_all_in, ao, e2, n1, g, e3, bd, fin_rt]
          simp [b_is_claim_in, n0, hj, e, hn, e0, ha, e1, hall, fin_rt, arg, items]
        | false =>
          cases e2 : hdv [112, 111, 115] 4 v with
          | true =>
            obtain ⟨a, b, c, rfl⟩ := hdv_four e2
            have pa := p.tup a (by simp)
            have pb := p.tup b (by simp)
            have pc := p.tup c (by simp)
            have ho := is_op_ok (k := k + n + 8) (h := h) (ops := ops3) pa
            simp only [ops3, List.map_cons, List.map_nil] at ho
            have q1 := is_position0_ok (k := k + n + 5) (h := h) o pb
            have q2 := is_position0_ok (k := k + n + 5) (h := h) o pc
            have z : atomB S [] (.tup [.str [112, 111, 115], a, b, c]) = false := by simp [atomB, hdv, arg, items, strOf]
            cases e3 : opOk ops3 a with
            | false =>
              rw [show opOk [[60, 61], [60], [61, 61]] a = false from e3] at ho
              simp [b_is_claim_in, n0, hj, e, hn, e0, ha, e1, hp, e2, ho, fin_rt, z, atomP, e3, arg, items]
            | true =>
              rw [show opOk [[60, 61], [60], [61, 61]] a = true from e3] at ho
              cases e4 : plc S [] b <;> simp [b_is_claim_in, n0, hj, e, hn, e0, ha, e1, hp, e2, ho, q1, q2, e4, fin_rt, z, atomP, e3, arg, items]
          | false =>
            have z : atomP S v = false := by simp [atomP, e2]
            cases e3 : hdv [118, 97, 108] 4 v with
            | false => simp [b_is_claim_in, n0, hj, e, hn, e0, ha, e1, hp, e2, hv, e3, fin_rt, z, atomB]
            | true =>
              obtain ⟨a, b, c, rfl⟩ := hdv_four e3
              have pa := p.tup a (by simp)
              have pb := p.tup b (by simp)
              have pc := p.tup c (by simp)
              have ho := is_op_ok (k := k + n + 8) (h := h) (ops := ops3) pa
              simp only [ops3, List.map_cons, List.map_nil] at ho
              have q1 := is_value0_ok (k := k + n + 3) (h := h) o pb
              have q2 := is_value0_ok (k := k + n + 3) (h := h) o pc
              have bt : ∀ v, bterm S [] v = wor S [] v := fun v => by
                unfold bterm wor inOwn
                simp
                exact Bool.or_comm _ _
              cases e4 : opOk ops3 a with
              | false =>
                rw [show opOk [[60, 61], [60], [61, 61]] a = false from e4] at ho
                simp [b_is_claim_in, n0, hj, e, hn, e0, ha, e1, hp, e2, hv, e3, ho, fin_rt, z, atomB, e4, arg, items]
              | true =>
                rw [show opOk [[60, 61], [60], [61, 61]] a = true from e4] at ho
                cases e5 : wor S [] b <;> simp [b_is_claim_in, n0, hj, e, hn, e0, ha, e1, hp, e2, hv, e3, ho, q1, q2, e5, fin_rt, z, atomB, e4, bt, arg, items]
end
end k05

set_option maxRecDepth 100000
namespace Lt
open PySem
/-- plain, and so deep at most -/
def Dp (n : Nat) (v : PV) : Prop := ∃ d, v.rp = some d ∧ d.depth ≤ n
theorem Dp.pln {n : Nat} {v : PV} (h : Dp n v) : Pln v := h.imp fun _ h => h.1
theorem Dp.mono {n m : Nat} {v : PV} (h : Dp n v) (z : n ≤ m) : Dp m v := h.imp fun _ h => ⟨h.1, Nat.le_trans h.2 z⟩
theorem depth_mem : ∀ {ds : List PyData} {d : PyData}, d ∈ ds → d.depth ≤ PyData.depthAll ds
  | x :: ds, d, h => by
    simp only [PyData.depthAll]
    rcases List.mem_cons.mp h with e | h
    · exact e ▸ Nat.le_max_left _ _
    · exact Nat.le_trans (depth_mem h) (Nat.le_max_right _ _)
theorem Dp.items {n : Nat} {l : List PV} (h : Dp (n + 1) (.tup l)) : ∀ x ∈ l, Dp n x := by
  obtain ⟨d, e, z⟩ := h
  have e' : (PV.rps l).map PyData.tuple = some d := by simpa only [PV.rp] using e
  cases e1 : PV.rps l with
  | none => rw [e1] at e'; cases e'
  | some ds =>
    rw [e1] at e'
    cases e'
    simp only [PyData.depth] at z
    intro x hx
    obtain ⟨d, h1, h2⟩ := rps_some e1 x hx
    have := depth_mem h1
    exact ⟨d, h2, by omega⟩
theorem Dp.tup0 {l : List PV} (h : Dp 0 (.tup l)) : False := by
  obtain ⟨d, e, z⟩ := h
  have e' : (PV.rps l).map PyData.tuple = some d := by simpa only [PV.rp] using e
  cases e1 : PV.rps l with
  | none => rw [e1] at e'; cases e'
  | some ds =>
    rw [e1] at e'
    cases e'
    simp only [PyData.depth] at z
    omega
theorem rps_dp {n : Nat} : ∀ {l : List PV}, (∀ x ∈ l, Dp n x) → ∃ ds, PV.rps l = some ds ∧ PyData.depthAll ds ≤ n
  | [], _ => ⟨[], rfl, by simp [PyData.depthAll]⟩
  | y :: l, h => by
    obtain ⟨d, e, z⟩ := h y List.mem_cons_self
    obtain ⟨ds, e2, z2⟩ := rps_dp (l := l) fun x hx => h x (List.mem_cons_of_mem _ hx)
    exact ⟨d :: ds, by simp only [PV.rps, e, e2], by simp only [PyData.depthAll]; omega⟩
theorem dp_tup {n : Nat} {l : List PV} (h : ∀ x ∈ l, Dp n x) : Dp (n + 1) (.tup l) := by
  obtain ⟨ds, e, z⟩ := rps_dp h
  exact ⟨.tuple ds, by simp only [PV.rp, e, Option.map], by simp only [PyData.depth]; omega⟩
theorem dp_lst {n : Nat} {l : List PV} (h : ∀ x ∈ l, Dp n x) : Dp (n + 1) (.lst l) := by
  obtain ⟨ds, e, z⟩ := rps_dp h
  exact ⟨.list ds, by simp only [PV.rp, e, Option.map], by simp only [PyData.depth]; omega⟩
end Lt
namespace k05
open Lt PySem
section
variable {k : Nat} {h : PH} {S : Sd} {x c w : Tx} {v : PV} {own : List Tx}
theorem dp0 (d : Dp 0 v) : isTup v = false := by
  cases v <;> first | rfl | exact d.tup0.elim
theorem int_isZero {i : Int} : decide (i = 0) = isZero (.int i) := rfl
theorem law_guard_ok (o : S.Ok) (zo : own.length ≤ 1000) : ∀ (n : Nat) (v : PV) (k : Nat) (h : PH), Dp n v → callS T (k + n + 3) n_u_law_is_guard [S.v, v, .tup (own.map .str)] h = some (.bl (grd S own n v), h)
  | 0, v, k, h, d => by
    have t := dp0 d
    have hj := are_joined_ok (k := k + 1) (h := h) d.pln
    have hs := st4 (k := k + 1) (h := h) (w := [112, 111, 115]) d.pln
    have j0 : joined v = false := by simp [joined, hdv, t]
    have s0 : hdv [112, 111, 115] 4 v = false := by simp [hdv, t]
    rw [c_u_law_is_guard]
    simp [b_u_law_is_guard, hj, j0, hs, s0, fin_rt, grd]
  | n + 1, v, k, h, d => by
    have ih := law_guard_ok o zo n
    have p := d.pln
    rw [show k + (n + 1) + 3 = (k + n + 3) + 1 by omega, c_u_law_is_guard]
    have hj := are_joined_ok (k := k + n + 2) (h := h) p
    cases e : joined v with
    | true =>
      obtain ⟨w, ps, rfl⟩ := joined_eq e
      have H : lcL (.name 5) (tNt (tTr (xCall (callS T (k + n + 3) n_u_law_is_guard) (aC (xV 0) (aC (xV 5) (aC (xV 2) aN)))))) (xV 5) [some S.v, some (.tup [.str w, .tup ps]), some (.tup (own.map .str)), none, none, none] ps h = some ((ps.filter fun x => !grd S own n x).map id, h) :=
        lcL_pure _ _ _ fun x hx => ⟨_, rfl, by
          have px : Dp n x := by
            have d1 := d.items (.tup ps) (by simp)
            cases n with
            | zero => exact d1.tup0.elim
            | succ n => exact (d1.items x hx).mono (by omega)
          simp [ih x k h px], fun _ => by simp⟩
      simp [b_u_law_is_guard, hj, e, H, lstV_ok, none_of, fin_rt, grd, arg, items]
    | false =>
      have hs := st4 (k := k + n + 2) (h := h) (w := [112, 111, 115]) p
      simp only [grd, e]
      cases e1 : hdv [112, 111, 115] 4 v with
      | false => simp [b_u_law_is_guard, hj, e, hs, e1, fin_rt, atomG]
      | true =>
        obtain ⟨a, b, c, rfl⟩ := hdv_four e1
        have pa := p.tup a (by simp)
        have pb := p.tup b (by simp)
        have pc := p.tup c (by simp)
        have ho := law_op_ok (k := k + n + 2) (h := h) (ops := [[60, 61], [61, 61]]) pa
        have tb := law_place_ok (k := k + n + 1) (h := h) (own := own) o zo pb
        have tc := law_place_ok (k := k + n + 1) (h := h) (own := own) o zo pc
        simp only [List.map_cons, List.map_nil] at ho
        cases e2 : opOk [[60, 61], [61, 61]] a with
        | false => simp [b_u_law_is_guard, lstV_ok, hj, e, hs, e1, ho, e2, fin_rt, atomG, arg, items]
        | true =>
          cases e3 : plc S own b with
          | false => simp [b_u_law_is_guard, lstV_ok, hj, e, hs, e1, ho, e2, tb, e3, fin_rt, atomG, gterm, arg, items]
          | true =>
            cases e4 : plc S own c with
            | false => simp [b_u_law_is_guard, lstV_ok, hj, e, hs, e1, ho, e2, tb, e3, tc, e4, fin_rt, atomG, gterm, arg, items]
            | true =>
              obtain ⟨y, i, rfl⟩ := plc_tup e3
              obtain ⟨y2, i2, rfl⟩ := plc_tup e4
              have cu : cutL [.str [112, 111, 115], a, .tup [.str y, .int i], .tup [.str y2, .int i2]] (some 2) none = [.tup [.str y, .int i], .tup [.str y2, .int i2]] := cut_from (n := 2) (by simp)
              by_cases e5 : y ∈ own
              · by_cases e6 : y2 ∈ own
                · by_cases e7 : i = 0
                  · subst e7
                    by_cases e8 : i2 = 0
                    · subst e8
                      simp [b_u_law_is_guard, lstV_ok, hj, e, hs, e1, ho, e2, tb, e3, tc, e4, cu, lcL, asg, e5, e6, fin_rt, atomG, gterm, arg, items, inOwn, isZero, strOf]
                    · simp [b_u_law_is_guard, lstV_ok, hj, e, hs, e1, ho, e2, tb, e3, tc, e4, cu, lcL, asg, e5, e6, e8, fin_rt, atomG, gterm, arg, items, inOwn, isZero, strOf]
                  · by_cases e8 : i2 = 0
                    · subst e8
                      simp [b_u_law_is_guard, lstV_ok, hj, e, hs, e1, ho, e2, tb, e3, tc, e4, cu, lcL, asg, e5, e6, e7, fin_rt, atomG, gterm, arg, items, inOwn, isZero, strOf]
                    · simp [b_u_law_is_guard, lstV_ok, hj, e, hs, e1, ho, e2, tb, e3, tc, e4, cu, lcL, asg, e5, e6, e7, e8, fin_rt, atomG, gterm, arg, items, inOwn, isZero, strOf]
                · by_cases e7 : i = 0
                  · subst e7
                    simp [b_u_law_is_guard, lstV_ok, hj, e, hs, e1, ho, e2, tb, e3, tc, e4, cu, lcL, asg, e5, e6, fin_rt, atomG, gterm, arg, items, inOwn, isZero, strOf]
                  · simp [b_u_law_is_guard, lstV_ok, hj, e, hs, e1, ho, e2, tb, e3, tc, e4, cu, lcL, asg, e5, e6, e7, fin_rt, atomG, gterm, arg, items, inOwn, isZero, strOf]
              · by_cases e6 : y2 ∈ own
                · by_cases e7 : i2 = 0
                  · subst e7
                    simp [b_u_law_is_guard, lstV_ok, hj, e, hs, e1, ho, e2, tb, e3, tc, e4, cu, lcL, asg, e5, e6, fin_rt, atomG, gterm, arg, items, inOwn, isZero, strOf]
                  · simp [b_u_law_is_guard, lstV_ok, hj, e, hs, e1, ho, e2, tb, e3, tc, e4, cu, lcL, asg, e5, e6, e7, fin_rt, atomG, gterm, arg, items, inOwn, isZero, strOf]
                · simp [b_u_law_is_guard, lstV_ok, hj, e, hs, e1, ho, e2, tb, e3, tc, e4, cu, lcL, asg, e5, e6, fin_rt, atomG, gterm, arg, items, inOwn, isZero, strOf]
theorem law_body_ok (o : S.Ok) (zo : own.length ≤ 1000) : ∀ (n : Nat) (v : PV) (k : Nat) (h : PH), Dp n v → callS T (k + n + 4) n_u_law_is_body [S.v, v, .tup (own.map .str)] h = some (.bl (bod S own n v), h)
  | 0, v, k, h, d => by
    have t := dp0 d
    have hj := are_joined_ok (k := k + 2) (h := h) d.pln
    have hs := st4 (k := k + 2) (h := h) (w := [118, 97, 108]) d.pln
    have hn := st2 (k := k + 2) (h := h) (w := [110, 111, 116]) d.pln
    have j0 : joined v = false := by simp [joined, hdv, t]
    have s0 : hdv [118, 97, 108] 4 v = false := by simp [hdv, t]
    have s1 : hdv [110, 111, 116] 2 v = false := by simp [hdv, t]
    rw [c_u_law_is_body]
    simp [b_u_law_is_body, hj, j0, hs, s0, hn, s1, fin_rt, bod]
  | n + 1, v, k, h, d => by
    have ih := law_body_ok o zo n
    have p := d.pln
    rw [show k + (n + 1) + 4 = (k + n + 4) + 1 by omega, c_u_law_is_body]
    have hj := are_joined_ok (k := k + n + 3) (h := h) p
    cases e : joined v with
    | true =>
      obtain ⟨w, ps, rfl⟩ := joined_eq e
      have H : lcL (.name 3) (tNt (tTr (xCall (callS T (k + n + 4) n_u_law_is_body) (aC (xV 0) (aC (xV 3) (aC (xV 2) aN)))))) (xV 3) [some S.v, some (.tup [.str w, .tup ps]), some (.tup (own.map .str)), none] ps h = some ((ps.filter fun x => !bod S own n x).map id, h) :=
        lcL_pure _ _ _ fun x hx => ⟨_, rfl, by
          have px : Dp n x := by
            have d1 := d.items (.tup ps) (by simp)
            cases n with
            | zero => exact d1.tup0.elim
            | succ n => exact (d1.items x hx).mono (by omega)
          simp [ih x k h px], fun _ => by simp⟩
      simp [b_u_law_is_body, hj, e, H, lstV_ok, none_of, fin_rt, bod, arg, items]
    | false =>
      have hn := st2 (k := k + n + 3) (h := h) (w := [110, 111, 116]) p
      simp only [bod, e]
      cases e0 : hdv [110, 111, 116] 2 v with
      | true =>
        obtain ⟨a, rfl⟩ := hdv_two e0
        have pa := d.items a (by simp)
        simp [b_u_law_is_body, hj, e, hn, e0, ih a k h pa, fin_rt, arg, items]
      | false =>
        have hs := st4 (k := k + n + 3) (h := h) (w := [118, 97, 108]) p
        cases e1 : hdv [118, 97, 108] 4 v with
        | false => simp [b_u_law_is_body, hj, e, hn, e0, hs, e1, fin_rt, atomB]
        | true =>
          obtain ⟨a, b, c, rfl⟩ := hdv_four e1
          have pa := p.tup a (by simp)
          have pb := p.tup b (by simp)
          have pc := p.tup c (by simp)
          have ho := law_op_ok (k := k + n + 3) (h := h) (ops := ops3) pa
          have tb := law_worth_ok (k := k + n + 1) (h := h) (own := own) o zo pb
          have tc := law_worth_ok (k := k + n + 1) (h := h) (own := own) o zo pc
          simp only [ops3, List.map_cons, List.map_nil] at ho
          cases e2 : opOk ops3 a with
          | false =>
            rw [show opOk [[60, 61], [60], [61, 61]] a = false from e2] at ho
            simp [b_u_law_is_body, lstV_ok, hj, e, hn, e0, hs, e1, ho, e2, fin_rt, atomB, arg, items]
          | true =>
            rw [show opOk [[60, 61], [60], [61, 61]] a = true from e2] at ho
            cases e3 : bterm S own b <;> simp [b_u_law_is_body, lstV_ok, hj, e, hn, e0, hs, e1, ho, e2, tb, e3, tc, fin_rt, atomB, arg, items]
end
end k05

set_option maxRecDepth 100000
namespace k05
open Lt PySem
section
variable {k : Nat} {h : PH} {S : Sd} {x c w : Tx} {v : PV} {own : List Tx}
theorem law_claim_ok (o : S.Ok) : ∀ (n : Nat) (v : PV) (k : Nat) (h : PH), Dp n v → callS T (k + n + 5) n_u_law_is_claim [S.v, v] h = some (.bl (clm S n v), h)
  | 0, v, k, h, d => by
    have t := dp0 d
    have hj := are_joined_ok (k := k + 3) (h := h) d.pln
    have s0 : ∀ w n, hdv w n v = false := fun w n => by simp [hdv, t]
    have hs4 := fun w => st4 (k := k + 3) (h := h) (w := w) d.pln
    have hs2 := fun w => st2 (k := k + 3) (h := h) (w := w) d.pln
    have j0 : joined v = false := by simp [joined, s0]
    rw [c_u_law_is_claim]
    simp [b_u_law_is_claim, hj, j0, hs4, hs2, s0, fin_rt, clm]
  | n + 1, v, k, h, d => by
    have ih := law_claim_ok o n
    have p := d.pln
    rw [show k + (n + 1) + 5 = (k + n + 5) + 1 by omega, c_u_law_is_claim]
    have hj := are_joined_ok (k := k + n + 4) (h := h) p
    cases e : joined v with
    | true =>
      obtain ⟨w, ps, rfl⟩ := joined_eq e
      have H : lcL (.name 2) (tNt (tTr (xCall (callS T (k + n + 5) n_u_law_is_claim) (aC (xV 0) (aC (xV 2) aN))))) (xV 2) [some S.v, some (.tup [.str w, .tup ps]), none] ps h = some ((ps.filter fun x => !clm S n x).map id, h) :=
        lcL_pure _ _ _ fun x hx => ⟨_, rfl, by
          have px : Dp n x := by
            have d1 := d.items (.tup ps) (by simp)
            cases n with
            | zero => exact d1.tup0.elim
            | succ n => exact (d1.items x hx).mono (by omega)
          simp [ih x k h px], fun _ => by simp⟩
      simp [b_u_law_is_claim, hj, e, H, lstV_ok, none_of, fin_rt, clm, arg, items]
    | false =>
      have hn := st2 (k := k + n + 4) (h := h) (w := [110, 111, 116]) p
      have ha := st4 (k := k + n + 4) (h := h) (w := [97, 108, 108]) p
      have hp := st4 (k := k + n + 4) (h := h) (w := [112, 111, 115]) p
      have hv := st4 (k := k + n + 4) (h := h) (w := [118, 97, 108]) p
      simp only [clm, e]
      cases e0 : hdv [110, 111, 116] 2 v with
      | true =>
        obtain ⟨a, rfl⟩ := hdv_two e0
        have pa := d.items a (by simp)
        simp [b_u_law_is_claim, hj, e, hn, e0, ih a k h pa, fin_rt, arg, items]
      | false =>
        cases e1 : hdv [97, 108, 108] 4 v with
        | true =>
          obtain ⟨a, b, c, rfl⟩ := hdv_four e1
          have pa := p.tup a (by simp)
          have db := d.items b (by simp)
          have dc := d.items c (by simp)
          have ao := law_own_ok (k := k + n + 3) (h := h) (S := S) o pa
          simp only [show arg 1 (.tup [.str [97, 108, 108], a, b, c]) = a from rfl, show arg 2 (.tup [.str [97, 108, 108], a, b, c]) = b from rfl, show arg 3 (.tup [.str [97, 108, 108], a, b, c]) = c from rfl]
          cases e2 : ownOk S a with
          | false => simp [b_u_law_is_claim, hj, e, hn, e0, ha, e1, ao, e2, fin_rt]
          | true =>
            obtain ⟨es, zo⟩ := strs_own e2
            have g := law_guard_ok (own := allT (items a)) o (by omega) n b (k + 2) h db
            have bd := law_body_ok (own := allT (items a)) o (by omega) n c (k + 1) h dc
            rw [← es] at g bd
            rw [show k + 2 + n + 3 = k + n + 5 by omega] at g
            rw [show k + 1 + n + 4 = k + n + 5 by omega] at bd
            cases e3 : grd S (allT (items a)) n b <;> simp [b_u_law_is_claim, hj, e, hn, e0, ha, e1, ao, e2, g, e3, bd, fin_rt]
        | false =>
          cases e2 : hdv [112, 111, 115] 4 v with
          | true =>
            obtain ⟨a, b, c, rfl⟩ := hdv_four e2
            have pa := p.tup a (by simp)
            have pb := p.tup b (by simp)
            have pc := p.tup c (by simp)
            have ho := law_op_ok (k := k + n + 4) (h := h) (ops := ops3) pa
            simp only [ops3, List.map_cons, List.map_nil] at ho
            have q1 := law_place_ok (k := k + n + 3) (h := h) (own := []) o (by simp) pb
            have q2 := law_place_ok (k := k + n + 3) (h := h) (own := []) o (by simp) pc
            simp only [List.map_nil] at q1 q2
            have v0 : hdv [118, 97, 108] 4 (.tup [.str [112, 111, 115], a, b, c]) = false := by simp [hdv, arg, items, strOf]
            have z : atomB S [] (.tup [.str [112, 111, 115], a, b, c]) = false := by simp [atomB, v0]
            cases e3 : opOk ops3 a with
            | false =>
              rw [show opOk [[60, 61], [60], [61, 61]] a = false from e3] at ho
              simp [b_u_law_is_claim, lstV_ok, tupV_ok, hj, e, hn, e0, ha, e1, hp, e2, ho, hv, v0, fin_rt, z, atomP, e3, arg, items]
            | true =>
              rw [show opOk [[60, 61], [60], [61, 61]] a = true from e3] at ho
              cases e4 : plc S [] b <;> simp [b_u_law_is_claim, lstV_ok, tupV_ok, hj, e, hn, e0, ha, e1, hp, e2, ho, q1, q2, e4, fin_rt, z, atomP, e3, arg, items]
          | false =>
            have z : atomP S v = false := by simp [atomP, e2]
            cases e3 : hdv [118, 97, 108] 4 v with
            | false => simp [b_u_law_is_claim, hj, e, hn, e0, ha, e1, hp, e2, hv, e3, fin_rt, z, atomB]
            | true =>
              have lb := law_body_ok (own := []) o (by simp) (n + 1) v k h d
              rw [show k + (n + 1) + 4 = k + n + 5 by omega] at lb
              simp only [List.map_nil, bod, e, e0] at lb
              simp [b_u_law_is_claim, tupV_ok, hj, e, hn, e0, ha, e1, hp, e2, hv, e3, lb, fin_rt, z]
theorem require_frame_ok : callS T (k + 1) n_require_frame [S.fr] h = some (.non, h) := by
  rw [c_require_frame]
  simp [b_require_frame, Sd.fr, fin_nx]
theorem is_claim_for_ok (o : S.Ok) (p : Pln v) : callS T (k + 22) n_is_claim_for [S.fr, v] h = some (.bl (clm S 12 v), h) := by
  rw [c_is_claim_for]
  have := is_claim_in_ok o 12 v k h p
  simp only [Int.cast_ofNat_Int] at this
  simp [b_is_claim_for, this, fin_rt]
theorem is_claim_ok (o : S.Ok) (p : Pln v) : callS T (k + 23) n_is_claim [S.fr, v] h = some (.bl (clm S 12 v), h) := by
  rw [c_is_claim]
  simp [b_is_claim, require_frame_ok, is_claim_for_ok o p, fin_rt]
theorem require_own_ok (e : ownOk S (.tup (own.map .str)) = true) (p : Pln (.tup (own.map .str))) : callS T (k + 4) n_require_own [S.fr, .tup (own.map .str)] h = some (.non, h) := by
  rw [c_require_own]
  simp [b_require_own, require_frame_ok, are_own_ok p, e, fin_nx]
theorem grd_mono : ∀ (n m : Nat) (v : PV), Dp n v → n ≤ m → grd S own n v = grd S own m v
  | 0, 0, v, d, _ => rfl
  | 0, m + 1, v, d, _ => by
    have t := dp0 d
    simp [grd, joined, hdv, t, atomG]
  | n + 1, m + 1, v, d, z => by
    simp only [grd]
    split
    · rename_i e
      obtain ⟨w, ps, rfl⟩ := joined_eq e
      have d1 := d.items (.tup ps) (by simp)
      cases n with
      | zero => exact d1.tup0.elim
      | succ n =>
        have : ∀ x ∈ ps, grd S own (n + 1) x = grd S own m x := fun x hx => grd_mono (n + 1) m x ((d1.items x hx).mono (by omega)) (by omega)
        show ps.all _ = ps.all _
        rw [Bool.eq_iff_iff, List.all_eq_true, List.all_eq_true]
        exact ⟨fun h x hx => by rw [← this x hx]; exact h x hx, fun h x hx => by rw [this x hx]; exact h x hx⟩
    · rfl
theorem bod_mono : ∀ (n m : Nat) (v : PV), Dp n v → n ≤ m → bod S own n v = bod S own m v
  | 0, 0, v, d, _ => rfl
  | 0, m + 1, v, d, _ => by
    have t := dp0 d
    simp [bod, joined, hdv, t, atomB]
  | n + 1, m + 1, v, d, z => by
    simp only [bod]
    split
    · rename_i e
      obtain ⟨w, ps, rfl⟩ := joined_eq e
      have d1 := d.items (.tup ps) (by simp)
      cases n with
      | zero => exact d1.tup0.elim
      | succ n =>
        have : ∀ x ∈ ps, bod S own (n + 1) x = bod S own m x := fun x hx => bod_mono (n + 1) m x ((d1.items x hx).mono (by omega)) (by omega)
        show ps.all _ = ps.all _
        rw [Bool.eq_iff_iff, List.all_eq_true, List.all_eq_true]
        exact ⟨fun h x hx => by rw [← this x hx]; exact h x hx, fun h x hx => by rw [this x hx]; exact h x hx⟩
    · split
      · rename_i e
        obtain ⟨a, rfl⟩ := hdv_two e
        exact bod_mono n m a (d.items a (by simp)) (by omega)
      · rfl
theorem is_guard_ok (o : S.Ok) (eo : ownOk S (.tup (own.map .str)) = true) (po : Pln (.tup (own.map .str))) (d : Dp 12 v) : callS T (k + 107) n_is_guard [S.fr, .tup (own.map .str), v] h = some (.bl (grd S own 12 v), h) := by
  rw [c_is_guard, grd_mono 12 100 v d (by decide)]
  have := is_guard_in_ok (own := own) o 100 v k h d.pln
  simp only [Int.cast_ofNat_Int] at this
  simp [b_is_guard, require_own_ok eo po, this, fin_rt]
theorem is_body_ok (o : S.Ok) (eo : ownOk S (.tup (own.map .str)) = true) (po : Pln (.tup (own.map .str))) (d : Dp 12 v) : callS T (k + 109) n_is_body [S.fr, .tup (own.map .str), v] h = some (.bl (bod S own 12 v), h) := by
  rw [c_is_body, bod_mono 12 100 v d (by decide)]
  have := is_body_in_ok (own := own) o 100 v k h d.pln
  simp only [Int.cast_ofNat_Int] at this
  simp [b_is_body, require_own_ok eo po, this, fin_rt]
end
end k05

set_option maxRecDepth 100000
namespace Lt
open PySem
theorem GV.dp' {n w : Nat} {v : PV} (g : GV n w v) : Dp n v := by
  obtain ⟨d, e, h1, _, _⟩ := okV_rp v g.ok
  exact ⟨d, e, by rw [h1]; exact g.dp⟩
end Lt
namespace k05
open Lt PySem
section
variable {k : Nat} {h : PH} {S : Sd} {x c w : Tx} {v : PV} {own : List Tx}
theorem all_judged_ok (o : S.Ok) (eo : ownOk S (.tup (own.map .str)) = true) (po : Pln (.tup (own.map .str))) (zo : own.length ≤ 2) (g : GV 12 16000000 v) :
    callS T (k + 110) n_u_law_all_judged [S.v, S.fr, .tup (own.map .str), v] h = some (.bl true, h) := by
  have d := g.dp'
  have l1 := law_claim_ok o 12 v (k + 92) h d
  have l2 := law_guard_ok (own := own) o (by omega) 12 v (k + 94) h d
  have l3 := law_body_ok (own := own) o (by omega) 12 v (k + 93) h d
  have p1 := is_claim_ok (k := k + 86) (h := h) o d.pln
  have p2 := is_guard_ok (k := k + 2) (h := h) o eo po d
  have p3 := is_body_ok (k := k) (h := h) o eo po d
  have rv : ∃ d, reprV [v] h = some (.rtx d, h) := (g.mono (by decide) (Nat.le_refl _)).repr.imp fun d h => h.1
  obtain ⟨dv, rv⟩ := rv
  have rd : ∃ d, reprV [.lst [.bl (clm S 12 v), .bl (grd S own 12 v), .bl (bod S own 12 v)]] h = some (.rtx d, h) := (GV.repr ⟨by simp [okV, okVs], by simp [dpt, dpts], by simp [wt, wts]⟩).imp fun d h => h.1
  obtain ⟨dd', rd⟩ := rd
  apply Ev.eq
  rw [show k + 110 = (k + 109) + 1 by omega, c_u_law_all_judged]
  simp [b_u_law_all_judged, l1, l2, l3, lstV_ok, rv, rng1V_ok (n := 2)]
  refine Ev.fnR (fun i s h' => h' = h ∧ ∃ a b, s = [some S.v, some S.fr, some (.tup (own.map .str)), some v, some (.lst [.bl (clm S 12 v), .bl (grd S own 12 v), .bl (bod S own 12 v)]), some (.rtx dv), a, b]) ⟨rfl, _, _, rfl⟩ ?_ ?_
  · rintro i s h' hi ⟨rfl, a, b, rfl⟩
    simp [p1, p2, p3, lstV_ok, rd, rv, eqV_rtx]
  · rintro s h' ⟨rfl, a, b, rfl⟩
    simp [fin_rt]
end
end k05

set_option maxRecDepth 100000
namespace Lt
open PySem
theorem perm_strs {ys : List PV} {l : List Tx} (p : ys.Perm (l.map .str)) : ∃ ws : List Tx, ys = ws.map .str ∧ ws.Perm l := by
  refine ⟨ys.map strOf, strs_of fun x hx => ?_, ?_⟩
  · obtain ⟨y, _, rfl⟩ := List.mem_map.mp (p.mem_iff.mp hx)
    rfl
  · have := p.map strOf
    rw [List.map_map] at this
    have e : (strOf ∘ PV.str) = id := rfl
    rwa [e, List.map_id] at this
theorem nodup_parts {X Y Z U a b c d : List Tx} (n : (X ++ (Y ++ (Z ++ U))).Nodup) (ha : a.Sublist X) (hb : b.Nodup) (hb2 : ∀ x ∈ b, x ∈ Y) (hc : c.Sublist Z) (hd : d.Sublist U) : (a ++ (b ++ (c ++ d))).Nodup := by
  rw [List.nodup_append] at n ⊢
  obtain ⟨n1, n2, n3⟩ := n
  rw [List.nodup_append] at n2
  obtain ⟨_, n4, n5⟩ := n2
  have n6 := n4
  rw [List.nodup_append] at n4
  obtain ⟨n7, n8, n9⟩ := n4
  have cs : ∀ x ∈ c ++ d, x ∈ Z ++ U := fun x hx => by
    rcases List.mem_append.mp hx with h | h
    · exact List.mem_append_left _ (hc.subset h)
    · exact List.mem_append_right _ (hd.subset h)
  refine ⟨ha.nodup n1, ?_, fun x hx y hy e => ?_⟩
  · rw [List.nodup_append]
    refine ⟨hb, ?_, fun x hx y hy => n5 x (hb2 x hx) y (cs y hy)⟩
    exact (hc.append hd).nodup n6
  · refine n3 x (ha.subset hx) y ?_ e
    rcases List.mem_append.mp hy with h | h
    · exact List.mem_append_left _ (hb2 y h)
    · exact List.mem_append_right _ (cs y h)
end Lt
namespace k05
open Lt PySem
def W14 : List Tx := [[97], [98], [110], [109], [105], [106], [107], [120], [97, 108, 108], [97, 110, 100], [112, 111, 115], [107, 107], [114, 111, 119, 114, 111, 119, 114, 111], [118]]
theorem W14_nodup : W14.Nodup := by decide
theorem W14_names : ∀ x ∈ W14, nameT x = true := by decide
/-- a frame's parts as they are drawn -/
structure Sd.Drawn (S : Sd) : Prop extends S.Ok where
  a3 : S.A.length ≤ 3
  p3 : S.P.length ≤ 3
  v3 : S.V.length ≤ 3
  w : ∀ x ∈ S.all, x ∈ W14
section
variable {k L n : Nat} {h : PH}
theorem arrs_of {ws lens : List Tx} : ∀ (c i : Nat) (ys : List PV), 3 + i + c ≤ ws.length → All2 (fun x y => ∀ j : Nat, x = .int j → ∃ w l, ws[3 + j]? = some w ∧ l ∈ lens ∧ y = .tup [.str w, .str l]) (rngL i c) ys → ∃ A : List (Tx × Tx), ys = A.map pr ∧ A.map (·.1) = (ws.drop (3 + i)).take c ∧ ∀ p ∈ A, p.2 ∈ lens
  | 0, i, ys, z, h => by
    cases h
    exact ⟨[], rfl, by simp, by simp⟩
  | c + 1, i, ys, z, h => by
    have h' : All2 (fun x y => ∀ j : Nat, x = .int j → ∃ w l, ws[3 + j]? = some w ∧ l ∈ lens ∧ y = .tup [.str w, .str l]) (.int i :: rngL ((i + 1 : Nat) : Int) c) ys := h
    cases h' with
    | cons h1 h2 =>
      obtain ⟨A, rfl, e1, e2⟩ := arrs_of c (i + 1) _ (by omega) h2
      obtain ⟨w, l, g1, g2, rfl⟩ := h1 i rfl
      refine ⟨(w, l) :: A, rfl, ?_, ?_⟩
      · obtain ⟨hi, ew⟩ := List.getElem?_eq_some_iff.mp g1
        rw [List.map_cons, e1, List.drop_eq_getElem_cons hi, List.take_succ_cons, ew]
        rfl
      · intro p hp
        rcases List.mem_cons.mp hp with e | hp
        · exact e ▸ g2
        · exact e2 p hp
theorem sides_ok (hn : n < L) (q : Hq L h) : Ev (callS T (k + 3) n_u_law_sides [.ref n, .int 3] h) fun r => Hq L r.2 ∧ ∃ S : Sd, r.1 = S.v ∧ S.Drawn := by
  rw [c_u_law_sides]
  simp [b_u_law_sides, lstV_ok]
  refine Ev.bd (choices_ok (xs := W14.map .str) 14 hn q (by decide) (by intro x hx; obtain ⟨y, _, rfl⟩ := List.mem_map.mp hx; rfl)) ?_
  rintro v h1 ⟨q1, ys, zs, e, pe, hl⟩
  have hz : zs = [] := by
    have := pe.length_eq
    rw [List.length_append, hl] at this
    have hw : (W14.map PV.str).length = 14 := rfl
    rw [hw] at this
    exact List.length_eq_zero_iff.mp (by omega)
  subst hz
  rw [List.append_nil] at pe
  obtain ⟨ws, rfl, pw⟩ := perm_strs pe
  have hwl : ws.length = 14 := pw.length_eq
  simp only at e q1
  subst e
  simp
  refine Ev.bd (tap_ok 4 hn q1 (by decide) (by decide)) ?_
  rintro v h2 ⟨q2, c, e, c0, c1⟩
  simp only at e q2
  subst e
  obtain ⟨c, rfl⟩ := Int.eq_ofNat_of_zero_le c0
  refine Ev.bd (tap_ok 2 hn q2 (by decide) (by decide)) ?_
  rintro v h3 ⟨q3, d, e, d0, d1⟩
  simp only at e q3
  subst e
  obtain ⟨d, rfl⟩ := Int.eq_ofNat_of_zero_le d0
  have c2 : cutL (ws.map PV.str) none (some (1 + (d : Int))) = (ws.take (1 + d)).map .str := by
    rw [show (1 + (d : Int)) = ((1 + d : Nat) : Int) by omega, cut_to (by rw [List.length_map]; omega), List.map_take]
  simp [c2, tupV_ok, asg, setAll, rng1V_ok (n := (c : Int)) (by omega) (by omega)]
  refine Ev.bd (lcL_invA (Hq L) (fun x y => ∀ j : Nat, x = .int j → ∃ w l, ws[3 + j]? = some w ∧ l ∈ ws.take 2 ∧ y = .tup [.str w, .str l]) (rngL 0 c) h3 q3 ?_) ?_
  · intro x hx
    obtain ⟨j, rfl, j0, j1⟩ := mem_rngL c 0 x hx
    obtain ⟨j, rfl⟩ := Int.eq_ofNat_of_zero_le j0
    refine ⟨_, rfl, fun h4 q4 => ?_⟩
    have hj : 3 + j < ws.length := by omega
    have ix : ixV h4 (.lst (ws.map PV.str)) (.int (3 + (j : Int))) = some (.str ws[3 + j]) := by
      rw [show (3 + (j : Int)) = ((3 + j : Nat) : Int) by omega, ix_lst, List.getElem?_map, List.getElem?_eq_getElem hj]
      rfl
    simp [ix]
    refine Ev.bd (choice_ok hn q4 (fun e => by have := congrArg List.length e; rw [List.length_take, List.length_map, List.length_nil] at this; omega) (by rw [List.length_take]; omega)) ?_
    rintro v h5 ⟨q5, hv⟩
    simp only at hv q5
    rw [← List.map_take] at hv
    obtain ⟨l, hl, rfl⟩ := List.mem_map.mp hv
    simp [tupV_ok, q5]
    intro j' e
    have e : j = j' := by omega
    subst e
    refine ⟨by simp [hj], ?_⟩
    have : ws.take (1 + d) = (ws.take 2).take (1 + d) := by rw [List.take_take, Nat.min_eq_left (by omega)]
    rw [this] at hl
    exact List.mem_of_mem_take hl
  rintro ys h4 ⟨al, q4⟩
  obtain ⟨A, rfl, eA, lA⟩ := arrs_of c 0 ys (by omega) al
  simp only at q4
  refine Ev.bd (tap_ok 4 hn q4 (by decide) (by decide)) ?_
  rintro v h5 ⟨q5, p, e, p0, p1⟩
  simp only at e q5
  subst e
  obtain ⟨p, rfl⟩ := Int.eq_ofNat_of_zero_le p0
  have cp : cutL (ws.map PV.str) (some 6) (some (6 + (p : Int))) = ((ws.drop 6).take p).map .str := by
    rw [show (6 + (p : Int)) = ((6 + p : Nat) : Int) by omega, show (6 : Int) = ((6 : Nat) : Int) from rfl, cut_mid (by omega) (by rw [List.length_map]; omega), List.map_take, List.map_drop]
    congr 1
    omega
  simp [cp]
  refine Ev.bd (tap_ok 4 hn q5 (by decide) (by decide)) ?_
  rintro v h6 ⟨q6, t, e, t0, t1⟩
  simp only at e q6
  subst e
  obtain ⟨t, rfl⟩ := Int.eq_ofNat_of_zero_le t0
  have ct : cutL (ws.map PV.str) (some 9) (some (9 + (t : Int))) = ((ws.drop 9).take t).map .str := by
    rw [show (9 + (t : Int)) = ((9 + t : Nat) : Int) by omega, show (9 : Int) = ((9 : Nat) : Int) from rfl, cut_mid (by omega) (by rw [List.length_map]; omega), List.map_take, List.map_drop]
    congr 1
    omega
  simp [ct, lstV_ok]
  rw [fin_rt' (by rw [q6.1, q.1])]
  simp only [Ev_some]
  refine ⟨q6, ⟨A, (ws.drop 6).take p, (ws.drop 9).take t⟩, by simp [Sd.v], ?_⟩
  have hA : A.length ≤ 3 := by
    have := congrArg List.length eA
    rw [List.length_map, List.length_take] at this
    omega
  have wnd := (pw.nodup_iff).mpr W14_nodup
  have hp3 : ((ws.drop 6).take p).length ≤ 3 := by rw [List.length_take]; omega
  have ht3 : ((ws.drop 9).take t).length ≤ 3 := by rw [List.length_take]; omega
  have sub : ∀ x ∈ (Sd.mk A ((ws.drop 6).take p) ((ws.drop 9).take t)).all, x ∈ ws := by
    intro x hx
    unfold Sd.all Sd.an Sd.ln at hx
    rw [eA] at hx
    rcases List.mem_append.mp hx with hx | hx
    · exact List.mem_of_mem_drop (List.mem_of_mem_take hx)
    · rcases List.mem_append.mp hx with hx | hx
      · obtain ⟨p, hp, rfl⟩ := List.mem_map.mp (dd_mem.mp hx)
        exact List.mem_of_mem_take (lA p hp)
      · rcases List.mem_append.mp hx with hx | hx <;> exact List.mem_of_mem_drop (List.mem_of_mem_take hx)
  have hw : ∀ x ∈ (Sd.mk A ((ws.drop 6).take p) ((ws.drop 9).take t)).all, x ∈ W14 := fun x hx => pw.mem_iff.mp (sub x hx)
  refine { a := by show A.length ≤ 12; omega, p := by show ((ws.drop 6).take p).length ≤ 6; omega, v := by show ((ws.drop 9).take t).length ≤ 6; omega, nd := ?_, nm := fun x hx => W14_names x (hw x hx), a3 := hA, p3 := hp3, v3 := ht3, w := hw }
  unfold Sd.all Sd.an Sd.ln
  rw [eA]
  have big : ((ws.drop 3).take 3 ++ (ws.take 2 ++ ((ws.drop 6).take 3 ++ (ws.drop 9).take 3))).Nodup := by
    match ws, hwl with
    | [w0, w1, w2, w3, w4, w5, w6, w7, w8, w9, w10, w11, w12, w13], _ =>
      have e : [w0, w1, w2, w3, w4, w5, w6, w7, w8, w9, w10, w11, w12, w13] = ([w0, w1] ++ [w2]) ++ ([w3, w4, w5] ++ (([w6, w7, w8] ++ [w9, w10, w11]) ++ [w12, w13])) := rfl
      rw [e] at wnd
      have w1n := (List.nodup_append.mp wnd).2.1
      show ([w3, w4, w5] ++ ([w0, w1] ++ ([w6, w7, w8] ++ [w9, w10, w11]))).Nodup
      have sb : (([w0, w1]) ++ ([w3, w4, w5] ++ ([w6, w7, w8] ++ [w9, w10, w11]))).Nodup := by
        refine List.Sublist.nodup ?_ wnd
        refine List.Sublist.append (List.sublist_append_left _ _) (List.Sublist.append (List.Sublist.refl _) (List.sublist_append_left _ _))
      refine (List.Perm.nodup_iff ?_).mpr sb
      rw [← List.append_assoc, ← List.append_assoc ([w0, w1])]
      exact List.Perm.append_right _ List.perm_append_comm
  refine nodup_parts big ?_ dd_nodup (fun x hx => ?_) ?_ ?_
  · exact List.take_sublist_take_left (by omega)
  · obtain ⟨p, hp, rfl⟩ := List.mem_map.mp (dd_mem.mp hx)
    exact lA p hp
  · exact List.take_sublist_take_left (by omega)
  · exact List.take_sublist_take_left (by omega)
end
end k05

set_option maxRecDepth 100000
namespace k05
open Lt PySem
def W7 : List Tx := [[107], [107, 107], [106], [122], [111, 119, 110], [110, 111, 116], [105]]
structure Own (S : Sd) (own : List Tx) : Prop where
  ne : own ≠ []
  le : own.length ≤ 2
  ok : ownOk S (.tup (own.map .str)) = true
  w : ∀ x ∈ own, x ∈ W7
section
variable {k L n : Nat} {h : PH} {S : Sd} {own : List Tx}
theorem own_names_ok (hn : n < L) (q : Hq L h) (d : S.Drawn) : Ev (callS T (k + 3) n_u_law_own_names [.ref n, S.v] h) fun r => Hq L r.2 ∧ ∃ own, r.1 = .tup (own.map .str) ∧ Own S own := by
  have an := fun h => all_names_ok (k := k + 1) (h := h) d.a d.p d.v
  have G : lcL (.name 3) (tTr (xCmp .notIn (xV 3) (xCall (callS T (k + 2) n_u_law_all_names) (aC (xV 1) aN)))) (xV 3) [some (.ref n), some S.v, none, none] (W7.map .str) h = some ((W7.filter fun x => !decide (x ∈ S.all)).map .str, h) :=
    lcL_gf _ _ _ fun x hx => ⟨[some (.ref n), some S.v, none, some (.str x)], rfl, by
      have ma := mem_all (S := S) (x := x)
      by_cases e3 : x ∈ S.all
      · simp [an, e3, ma.mpr e3, -List.mem_append, -List.map_append]
      · have e4 : ¬ x ∈ S.an ++ (S.ln ++ (S.P ++ S.V)) := fun e => e3 (ma.mp e)
        simp [an, e3, e4, -List.mem_append, -List.map_append], fun _ => by simp⟩
  have W7e : [PV.str [107], .str [107, 107], .str [106], .str [122], .str [111, 119, 110], .str [110, 111, 116], .str [105]] = W7.map .str := rfl
  rw [c_u_law_own_names]
  simp only [b_u_law_own_names]
  simp [lstV_ok]
  rw [W7e, G]
  simp
  refine Ev.bd (tap_ok 2 hn q (by decide) (by decide)) ?_
  rintro v h1 ⟨q1, t, e, t0, t1⟩
  simp only at e q1
  subst e
  obtain ⟨t, rfl⟩ := Int.eq_ofNat_of_zero_le t0
  simp only [op_add, ob_some, bd_some]
  rw [show (1 + (t : Int)) = ((1 + t : Nat) : Int) by omega]
  refine Ev.bd (choices_ok (1 + t) hn q1 ?_ ?_) ?_
  · rw [List.length_map]
    exact Nat.lt_of_le_of_lt (List.length_filter_le _ _) (by decide)
  · intro x hx
    obtain ⟨y, _, rfl⟩ := List.mem_map.mp hx
    rfl
  rintro v h2 ⟨q2, ys, zs, e, pe, hl⟩
  simp only at e q2
  subst e
  simp
  rw [fin_rt' (by rw [q2.1, q.1])]
  simp only [Ev_some]
  have hz : ∀ y ∈ ys ++ zs, isStr y = true := fun y hy => by
    obtain ⟨x, _, rfl⟩ := List.mem_map.mp (pe.mem_iff.mp hy)
    rfl
  obtain ⟨ws, e, pw⟩ := perm_strs pe
  have eys : ys = (ys.map strOf).map .str := strs_of fun x hx => hz x (List.mem_append_left _ hx)
  have sub : (ys.map strOf).Sublist ws := by
    have : ws = (ys ++ zs).map strOf := by rw [e, List.map_map]; exact (List.map_id ws).symm
    rw [this, List.map_append]
    exact List.sublist_append_left _ _
  have nd : (ys.map strOf).Nodup := sub.nodup (pw.nodup_iff.mpr (List.filter_sublist.nodup (by decide)))
  have mem : ∀ x ∈ ys.map strOf, x ∈ W7 ∧ ¬ x ∈ S.all := fun x hx => by
    have := pw.mem_iff.mp (sub.subset hx)
    rw [List.mem_filter] at this
    exact ⟨this.1, by simpa using this.2⟩
  have z : [122] ∈ W7.filter fun x => !decide (x ∈ S.all) := by
    rw [List.mem_filter]
    refine ⟨by decide, ?_⟩
    have : ¬ [122] ∈ S.all := fun e => by
      have := d.w _ e
      revert this
      decide
    simpa using this
  have lf : 0 < (W7.filter fun x => !decide (x ∈ S.all)).length := List.length_pos_of_mem z
  have len : (ys.map strOf).length = min (1 + t) (W7.filter fun x => !decide (x ∈ S.all)).length := by
    rw [List.length_map, hl, List.length_map]
  refine ⟨q2, ys.map strOf, by rw [← eys], ?_, by omega, ?_, fun x hx => (mem x hx).1⟩
  · intro e
    rw [e] at len
    simp at len
    omega
  · unfold ownOk
    have l12 : oneTwo (items (.tup ((ys.map strOf).map .str))).length = true := by
      show oneTwo ((ys.map strOf).map PV.str).length = true
      rw [List.length_map]
      unfold oneTwo
      simp only [Bool.or_eq_true, decide_eq_true_eq]
      omega
    rw [l12]
    have fr : (items (.tup ((ys.map strOf).map .str))).all (fresh1 S) = true := List.all_eq_true.mpr fun y hy => by
      obtain ⟨x, hx, rfl⟩ := List.mem_map.mp (show y ∈ (ys.map strOf).map PV.str from hy)
      have := mem x hx
      have nm : nameT x = true := by
        have : ∀ x ∈ W7, nameT x = true := by decide
        exact this x (mem x hx).1
      unfold fresh1
      simp [isName, nm, strOf, this.2]
    rw [fr]
    have e2 : allT (items (.tup ((ys.map strOf).map .str))) = ys.map strOf := by
      show ((ys.map strOf).map PV.str).map strOf = _
      rw [List.map_map]
      exact List.map_id _
    rw [e2]
    unfold dist
    simp [isTup, nubS_nodup_iff.mpr nd]
end
end k05

set_option maxRecDepth 100000
namespace k05
open Lt PySem
/-- a text and a number as they are drawn -/
def nmOk (x : Tx) : Bool := okV (.str x) && decide (x.length ≤ 8)
theorem W14_nm : ∀ x ∈ W14, nmOk x = true := by decide
theorem W7_nm : ∀ x ∈ W7, nmOk x = true := by decide
def nums : List Int := [0, 0, 1, -1, 2, -2, 3, 100000000000000000000, 0, 1]
theorem nums_ok : ∀ i ∈ nums, isWhole (.int i) = true ∧ okV (.int i) = true := by decide
theorem gv_nm {x : Tx} (e : nmOk x = true) : GV 0 82 (.str x) := by
  unfold nmOk at e
  rw [Bool.and_eq_true, decide_eq_true_eq] at e
  exact ⟨e.1, by simp [dpt], by simp only [wt]; omega⟩
theorem gv_num {i : Int} (e : okV (.int i) = true) : GV 0 82 (.int i) := ⟨e, by simp [dpt], by simp [wt]⟩
theorem pname_mono {S : Sd} {own : List Tx} {v : PV} (e : pname S [] v = true) : pname S own v = true := by
  cases v <;> first | cases e | skip
  unfold pname at e ⊢
  simp only [Bool.or_eq_true, decide_eq_true_eq, List.not_mem_nil, false_or] at e ⊢
  rcases e with e | e | e <;> simp [e]
theorem plc_mono {S : Sd} {own : List Tx} {v : PV} (e : plc S [] v = true) : plc S own v = true := by
  unfold plc at e ⊢
  simp only [Bool.and_eq_true] at e ⊢
  exact ⟨e.1, e.2.1, pname_mono e.2.2.1, e.2.2.2⟩
section
variable {k L n : Nat} {h : PH} {S : Sd} {own : List Tx}
theorem Sd.Drawn.pn (d : S.Drawn) {x : Tx} (hx : x ∈ pnames S) : pname S [] (.str x) = true ∧ nmOk x = true := by
  have m := mem_pnames (S := S) (own := []) (x := x)
  simp only [List.not_mem_nil, decide_false, Bool.or_false, hx, decide_true] at m
  refine ⟨m.symm, ?_⟩
  unfold pnames at hx
  rcases List.mem_cons.mp hx with e | hx
  · subst e
    decide
  · have : x ∈ S.all := by
      unfold Sd.all
      rcases List.mem_append.mp hx with hx | hx
      · exact List.mem_append_right _ (List.mem_append_right _ (List.mem_append_left _ hx))
      · exact List.mem_append_right _ (List.mem_append_left _ (dd_mem.mpr (nubS_mem.mp (sortS_mem'.mp hx))))
    exact W14_nm x (d.w x this)
theorem number_ok (hn : n < L) (q : Hq L h) : Ev (callS T (k + 3) n_u_law_number [.ref n] h) fun r => Hq L r.2 ∧ ∃ i, i ∈ nums ∧ r.1 = .int i := by
  rw [c_u_law_number]
  have e : [PV.int 0, .int 0, .int 1, .int (-1), .int 2, .int (-2), .int 3, .int 100000000000000000000, .int 0, .int 1] = nums.map .int := rfl
  simp [b_u_law_number, pow20, lstV_ok]
  rw [e]
  refine Ev.bd (choice_ok hn q (by decide) (by decide)) ?_
  rintro v h1 ⟨q1, hv⟩
  simp only at hv q1
  obtain ⟨i, hi, rfl⟩ := List.mem_map.mp hv
  rw [fin_rt' (by rw [q1.1, q.1])]
  exact ⟨_, rfl, q1, i, hi, rfl⟩
/-- a position term -/
structure PlcV (S : Sd) (v : PV) : Prop where
  p : plc S [] v = true
  g : GV 1 170 v
theorem plcV_mk (d : S.Drawn) {x : Tx} {i : Int} (hx : x ∈ pnames S) (hi : i ∈ nums) : PlcV S (.tup [.str x, .int i]) := by
  obtain ⟨e1, e2⟩ := d.pn hx
  obtain ⟨e3, e4⟩ := nums_ok i hi
  refine ⟨by simp [plc, isTup, items, arg, e1, e3], ?_⟩
  have := gv_tup (n := 0) (w := 82) (m := 2) (l := [.str x, .int i]) (fun y hy => by
    rcases List.mem_cons.mp hy with e | hy
    · exact e ▸ gv_nm e2
    · rcases List.mem_cons.mp hy with e | hy
      · exact e ▸ gv_num e4
      · cases hy) (by simp)
  exact this.mono (by decide) (by decide)
theorem place_ok (hn : n < L) (q : Hq L h) (d : S.Drawn) : Ev (callS T (k + 4) n_u_law_place [.ref n, S.v] h) fun r => Hq L r.2 ∧ ∃ x i, r.1 = .tup [.str x, .int i] ∧ x ∈ pnames S ∧ i ∈ nums := by
  rw [c_u_law_place]
  have hp := d.p3
  have hl : S.ln.length = S.A.length := List.length_map ..
  have ha := d.a3
  have hz : (pnames S).length ≤ 100 := by
    unfold pnames
    have := nubS_len (l := S.ln)
    rw [List.length_cons, List.length_append, sortS_len']
    omega
  simp [b_u_law_place, place_names_ok d.toOk]
  refine Ev.bd (choice_ok hn q (by unfold pnames; simp) (by rw [List.length_map]; omega)) ?_
  rintro v h1 ⟨q1, hv⟩
  simp only at hv q1
  obtain ⟨x, hx, rfl⟩ := List.mem_map.mp hv
  refine Ev.bd (number_ok hn q1) ?_
  rintro v h2 ⟨q2, i, hi, e⟩
  simp only at e q2
  subst e
  rw [fin_rt' (by rw [q2.1, q.1])]
  exact ⟨_, rfl, q2, x, i, rfl, hx, hi⟩
/-- a value term -/
structure WorV (S : Sd) (own : List Tx) (v : PV) : Prop where
  p : bterm S own v = true
  g : GV 1 340 v
theorem gv2 {a b : PV} {w : Nat} (ga : GV 0 w a) (gb : GV 0 w b) : GV 1 (2 * (w + 2) + 2) (.tup [a, b]) := gv_tup (n := 0) (m := 2) (fun y hy => by
    rcases List.mem_cons.mp hy with e | hy
    · exact e ▸ ga
    · rcases List.mem_cons.mp hy with e | hy
      · exact e ▸ gb
      · cases hy) (by simp)
theorem gv4 {a b c d : PV} {m w : Nat} (ga : GV m w a) (gb : GV m w b) (gc : GV m w c) (gd : GV m w d) : GV (m + 1) (4 * (w + 2) + 2) (.tup [a, b, c, d]) := gv_tup (m := 4) (fun y hy => by
    rcases List.mem_cons.mp hy with e | hy
    · exact e ▸ ga
    · rcases List.mem_cons.mp hy with e | hy
      · exact e ▸ gb
      · rcases List.mem_cons.mp hy with e | hy
        · exact e ▸ gc
        · rcases List.mem_cons.mp hy with e | hy
          · exact e ▸ gd
          · cases hy) (by simp)
theorem wor_wrd {x : Tx} {i : Int} (hx : x = [] ∨ x ∈ S.V) (d : S.Drawn) (hi : i ∈ nums) : WorV S own (.tup [.str x, .int i]) := by
  obtain ⟨e3, e4⟩ := nums_ok i hi
  have nm : nmOk x = true := by
    rcases hx with e | hx
    · subst e; decide
    · exact W14_nm x (d.w x (by unfold Sd.all; simp [hx]))
  refine ⟨?_, (gv2 (gv_nm nm) (gv_num e4)).mono (by decide) (by decide)⟩
  have : (decide (x = []) || decide (x ∈ S.V)) = true := by simpa using hx
  unfold bterm wrd
  simp [isTup, items, arg, isStr, strOf, this, e3]
/-- own names, or none -/
structure OwnF (S : Sd) (own : List Tx) : Prop where
  le : own.length ≤ 2
  f : ∀ x ∈ own, ¬ x ∈ S.all ∧ x ≠ [] ∧ x ∈ W7
theorem Own.f (o : Own S own) : OwnF S own := by
  refine ⟨o.le, fun x hx => ⟨?_, ?_, o.w x hx⟩⟩
  · have e := o.ok
    unfold ownOk at e
    simp only [Bool.and_eq_true] at e
    have := List.all_eq_true.mp e.2.2.1 (.str x) (List.mem_map_of_mem hx)
    unfold fresh1 at this
    rw [Bool.and_eq_true] at this
    have h2 := this.2
    simp only [strOf, Bool.not_eq_true', decide_eq_false_iff_not] at h2
    exact of_decide_eq_false h2
  · intro e
    subst e
    exact absurd (o.w [] hx) (by decide)
theorem OwnF.nil : OwnF S [] := ⟨by simp, by simp⟩
theorem OwnF.pn (o : OwnF S own) {x : Tx} (hx : x ∈ pnames S) : ¬ x ∈ own := fun e => by
  obtain ⟨f1, f2, _⟩ := o.f x e
  unfold pnames at hx
  rcases List.mem_cons.mp hx with h | hx
  · exact f2 h
  · refine f1 ?_
    unfold Sd.all
    rcases List.mem_append.mp hx with hx | hx
    · exact List.mem_append_right _ (List.mem_append_right _ (List.mem_append_left _ hx))
    · exact List.mem_append_right _ (List.mem_append_left _ (dd_mem.mpr (nubS_mem.mp (sortS_mem'.mp hx))))
theorem plc_own {x : Tx} (hx : x ∈ own) : plc S own (.tup [.str x, .int 0]) = true := by
  simp [plc, isTup, items, arg, pname, hx, isWhole]
theorem wor_cel (d : S.Drawn) (o : OwnF S own) {x y : Tx} {i j : Int} (hx : x ∈ S.an) (hy : y ∈ pnames S ∧ i ∈ nums ∨ y ∈ own ∧ i = 0) (hj : j ∈ nums) : WorV S own (.tup [.str x, .str y, .int i, .int j]) := by
  obtain ⟨e3, e4⟩ := nums_ok j hj
  have nx : nmOk x = true := W14_nm x (d.w x (by unfold Sd.all; simp [hx]))
  have hi : okV (.int i) = true := hy.elim (fun h => (nums_ok i h.2).2) fun h => by rw [h.2]; decide
  have ny : nmOk y = true := hy.elim (fun h => (d.pn h.1).2) fun h => W7_nm y (o.f y h.1).2.2
  have pp : plc S own (.tup [.str y, .int i]) = true := hy.elim (fun h => plc_mono (plcV_mk d h.1 h.2).p) fun h => by rw [h.2]; exact plc_own h.1
  have oz : (!inOwn own (.str y) || isZero (.int i)) = true := hy.elim (fun h => by
    have := o.pn h.1
    simp [inOwn, strOf, this]) fun h => by rw [h.2]; simp [isZero]
  refine ⟨?_, (gv4 (gv_nm nx) (gv_nm ny) (gv_num hi) (gv_num e4)).mono (by decide) (by decide)⟩
  unfold bterm cel
  simp only [items, List.length_cons, List.length_nil, isTup, show arg 0 (.tup [.str x, .str y, .int i, .int j]) = .str x from rfl, show arg 1 (.tup [.str x, .str y, .int i, .int j]) = .str y from rfl,
    show arg 2 (.tup [.str x, .str y, .int i, .int j]) = .int i from rfl, show arg 3 (.tup [.str x, .str y, .int i, .int j]) = .int j from rfl, pp, oz, e3, isStr, strOf, hx]
  simp
theorem worth_ok (hn : n < L) (q : Hq L h) (d : S.Drawn) (o : OwnF S own) : Ev (callS T (k + 5) n_u_law_worth [.ref n, S.v, .tup (own.map .str)] h) fun r => Hq L r.2 ∧ WorV S own r.1 := by
  rw [c_u_law_worth]
  simp [b_u_law_worth]
  refine Ev.bd (tap_ok 4 hn q (by decide) (by decide)) ?_
  rintro v h1 ⟨q1, w, e, w0, w1⟩
  simp only at e q1
  subst e
  have done : ∀ (v : PV) (h' : PH), Hq L h' → WorV S own v → Ev (fin true (List.length h) (some (.rt v h'))) fun r => Hq L r.2 ∧ WorV S own r.1 := fun v h' q' g => by
    rw [fin_rt' (by rw [q'.1, q.1])]
    exact ⟨_, rfl, q', g⟩
  have hv3 := d.v3
  have nil : ∀ (h' : PH), Hq L h' → Ev (bd (callS T (k + 4) n_u_law_number [.ref n] h') fun v h_1 => fin true (List.length h) (some (.rt (.tup [.str [], v]) h_1))) fun r => Hq L r.2 ∧ WorV S own r.1 := fun h' q' => by
    refine Ev.bd (number_ok hn q') ?_
    rintro v h2 ⟨q2, i, hi, e⟩
    simp only at e q2
    subst e
    exact done _ _ q2 (wor_wrd (.inl rfl) d hi)
  have vals : ∀ (h' : PH), Hq L h' → Ev (bd (callS T (k + 4) n_u_law_choice [.ref n, .lst (.str [] :: S.V.map .str)] h') fun v h_1 => bd (callS T (k + 4) n_u_law_number [.ref n] h_1) fun v_1 h_2 => fin true (List.length h) (some (.rt (.tup [v, v_1]) h_2))) fun r => Hq L r.2 ∧ WorV S own r.1 := fun h' q' => by
    refine Ev.bd (choice_ok (xs := .str [] :: S.V.map .str) hn q' (by simp) (by simp; omega)) ?_
    rintro v h2 ⟨q2, hv⟩
    simp only at hv q2
    have : ∃ x, v = .str x ∧ (x = [] ∨ x ∈ S.V) := by
      rcases List.mem_cons.mp hv with e | hv
      · exact ⟨[], e, .inl rfl⟩
      · obtain ⟨x, hx, rfl⟩ := List.mem_map.mp hv
        exact ⟨x, rfl, .inr hx⟩
    obtain ⟨x, rfl, hx⟩ := this
    refine Ev.bd (number_ok hn q2) ?_
    rintro v h3 ⟨q3, i, hi, e⟩
    simp only at e q3
    subst e
    exact done _ _ q3 (wor_wrd hx d hi)
  by_cases e0 : w = 0
  · subst e0
    simp
    exact nil h1 q1
  · cases hA : S.A with
    | nil =>
      by_cases e1 : w = 1
      · subst e1
        simp [hA]
        exact nil h1 q1
      · simp [hA, e0, e1, op_addL, show 1 + S.V.length ≤ 4096 by omega, show S.V.length + 1 ≤ 4096 by omega]
        exact vals h1 q1
    | cons a A =>
      by_cases e1 : w = 1
      · subst e1
        simp [hA, op_addL, show 1 + S.V.length ≤ 4096 by omega, show S.V.length + 1 ≤ 4096 by omega]
        exact vals h1 q1
      · simp [hA, e0, e1]
        refine Ev.bd (choiceT_ok hn q1 (by simp) ?_) ?_
        · have := d.a3
          rw [hA] at this
          simp at this ⊢
          omega
        rintro v h2 ⟨q2, hv⟩
        simp only at hv q2
        rw [← List.map_cons (f := pr), ← hA] at hv
        obtain ⟨p, hp, rfl⟩ := List.mem_map.mp hv
        have hx : p.1 ∈ S.an := List.mem_map_of_mem hp
        simp [pr]
        refine Ev.bd (place_ok hn q2 d) ?_
        rintro v h3 ⟨q3, y, i, e, hy, hi⟩
        simp only at e q3
        subst e
        simp
        have plain : Ev (bd (callS T (k + 4) n_u_law_number [.ref n] h3) fun v h_1 => fin true (List.length h) (some (.rt (.tup [.str p.1, .str y, .int i, v]) h_1))) fun r => Hq L r.2 ∧ WorV S own r.1 := by
          refine Ev.bd (number_ok hn q3) ?_
          rintro v h4 ⟨q4, j, hj, e⟩
          simp only at e q4
          subst e
          exact done _ _ q4 (wor_cel d o hx (.inl ⟨hy, hi⟩) hj)
        by_cases eo : own = []
        · subst eo
          simp
          exact plain
        · have eo' : own.isEmpty = false := by simpa using eo
          by_cases e2 : w = 2
          · simp [eo', e2]
            refine Ev.bd (choiceT_ok hn q3 (by simpa using eo) (by have := o.le; rw [List.length_map]; omega)) ?_
            rintro v h4 ⟨q4, hv⟩
            simp only at hv q4
            obtain ⟨z, hz, rfl⟩ := List.mem_map.mp hv
            refine Ev.bd (number_ok hn q4) ?_
            rintro v h5 ⟨q5, j, hj, e⟩
            simp only at e q5
            subst e
            exact done _ _ q5 (wor_cel d o hx (.inr ⟨hz, rfl⟩) hj)
          · simp [eo', e2]
            exact plain
end
end k05

set_option maxRecDepth 100000
namespace k05
open Lt PySem
def wB : Nat → Nat
  | 0 => 1400
  | d + 1 => 8 * wB d + 100
theorem wB_le : ∀ {a b : Nat}, a ≤ b → wB a ≤ wB b
  | 0, 0, _ => Nat.le_refl _
  | 0, b + 1, _ => by
    have := wB_le (Nat.zero_le b)
    simp only [wB] at this ⊢
    omega
  | a + 1, b + 1, h => by
    have := wB_le (Nat.le_of_succ_le_succ h)
    simp only [wB]
    omega
theorem wB_pos (d : Nat) : 1400 ≤ wB d := wB_le (Nat.zero_le d)
section
variable {k L n : Nat} {h : PH} {S : Sd} {own : List Tx}
theorem joined_mk {w : Tx} {ps : List PV} (e : w = [97, 110, 100] ∨ w = [111, 114]) : joined (.tup [.str w, .tup ps]) = true := by
  rcases e with e | e <;> subst e <;> simp [joined, hdv, isTup, items, arg, isStr, strOf]
theorem joined_not {a : PV} : joined (.tup [.str [110, 111, 116], a]) = false := by simp [joined, hdv, isTup, items, arg, isStr, strOf]
theorem joined_four {a b c d : PV} : joined (.tup [a, b, c, d]) = false := by simp [joined, hdv, isTup, items]
theorem hdv_mk2 {w : Tx} {a : PV} : hdv w 2 (.tup [.str w, a]) = true := by simp [hdv, isTup, items, arg, isStr, strOf]
theorem hdv_mk4 {w : Tx} {a b c : PV} : hdv w 4 (.tup [.str w, a, b, c]) = true := by simp [hdv, isTup, items, arg, isStr, strOf]
theorem hdv_24 {w : Tx} {a b c d : PV} : hdv w 2 (.tup [a, b, c, d]) = false := by simp [hdv, items]
theorem gv_join {m w : Nat} {x : Tx} {ps : List PV} (ex : GV 0 82 (.str x)) (z : ps.length ≤ 3) (g : ∀ p ∈ ps, GV m w p) (hw : 1400 ≤ w) : GV (m + 2) (8 * w + 100) (.tup [.str x, .tup ps]) := by
  have g1 := gv_tup g z
  have : GV (m + 1) (3 * (w + 2) + 2) (.str x) := ex.mono (by omega) (by omega)
  exact (gv_tup (n := m + 1) (w := 3 * (w + 2) + 2) (m := 2) (l := [.str x, .tup ps]) (fun y hy => by
    rcases List.mem_cons.mp hy with e | hy
    · exact e ▸ this
    · rcases List.mem_cons.mp hy with e | hy
      · exact e ▸ g1
      · cases hy) (by simp)).mono (by omega) (by omega)
theorem gv_not {m w : Nat} {x : Tx} {a : PV} (ex : GV 0 82 (.str x)) (g : GV m w a) (hw : 1400 ≤ w) : GV (m + 2) (8 * w + 100) (.tup [.str x, a]) := by
  have : GV m w (.str x) := ex.mono (by omega) (by omega)
  exact (gv_tup (n := m) (w := w) (m := 2) (l := [.str x, a]) (fun y hy => by
    rcases List.mem_cons.mp hy with e | hy
    · exact e ▸ this
    · rcases List.mem_cons.mp hy with e | hy
      · exact e ▸ g
      · cases hy) (by simp)).mono (by omega) (by omega)
theorem bod_not {m : Nat} {a : PV} : bod S own (m + 1) (.tup [.str [110, 111, 116], a]) = bod S own m a := by
  rw [bod, if_neg (by rw [joined_not]; simp), if_pos hdv_mk2]
  rfl
theorem bod_join {m : Nat} {w : Tx} {ps : List PV} (e : w = [97, 110, 100] ∨ w = [111, 114]) : bod S own (m + 1) (.tup [.str w, .tup ps]) = ps.all (bod S own m) := by
  rw [bod, if_pos (joined_mk e)]
  rfl
theorem bod_four {m : Nat} {a b c d : PV} : bod S own (m + 1) (.tup [a, b, c, d]) = atomB S own (.tup [a, b, c, d]) := by
  rw [bod, if_neg (by rw [joined_four]; simp), if_neg (by rw [hdv_24]; simp)]
structure BodV (S : Sd) (own : List Tx) (d : Nat) (v : PV) : Prop where
  b : bod S own d v = true
  g : GV (2 * d) (wB d) v
  a : d = 1 → atomB S own v = true
theorem body_ok (sd : S.Drawn) (o : OwnF S own) (hn : n < L) : ∀ (d : Nat) (k : Nat) (h : PH), Hq L h → Ev (callS T (k + d + 7) n_u_law_body [.ref n, S.v, .tup (own.map .str), .int (d + 1 : Nat)] h) fun r => Hq L r.2 ∧ BodV S own (d + 1) r.1 := by
  have atom : ∀ (d : Nat) (k : Nat) (h h1 : PH), Hq L h → Hq L h1 → Ev (bd (callS T (k + 6) n_u_law_choice [.ref n, .lst [.str [60, 61], .str [60], .str [61, 61]]] h1) fun v h_1 => bd (callS T (k + 6) n_u_law_worth [.ref n, S.v, .tup (own.map .str)] h_1) fun v_1 h_2 => bd (callS T (k + 6) n_u_law_worth [.ref n, S.v, .tup (own.map .str)] h_2) fun v_2 h_3 => fin true (List.length h) (some (.rt (.tup [.str [118, 97, 108], v, v_1, v_2]) h_3))) fun r => Hq L r.2 ∧ BodV S own (d + 1) r.1 := fun d k h h1 q q1 => by
    refine Ev.bd (choice_ok (xs := [.str [60, 61], .str [60], .str [61, 61]]) hn q1 (by simp) (by simp)) ?_
    rintro v h2 ⟨q2, hv⟩
    simp only at hv q2
    have : ∃ x, v = .str x ∧ x ∈ ops3 := by
      rcases List.mem_cons.mp hv with e | hv
      · exact ⟨_, e, by decide⟩
      · rcases List.mem_cons.mp hv with e | hv
        · exact ⟨_, e, by decide⟩
        · rcases List.mem_cons.mp hv with e | hv
          · exact ⟨_, e, by decide⟩
          · cases hv
    obtain ⟨x, rfl, hx⟩ := this
    refine Ev.bd (worth_ok (k := k + 1) hn q2 sd o) ?_
    rintro a h3 ⟨q3, ga⟩
    refine Ev.bd (worth_ok (k := k + 1) hn q3 sd o) ?_
    rintro b h4 ⟨q4, gb⟩
    simp only at ga gb q3 q4
    rw [fin_rt' (by rw [q4.1, q.1])]
    have hat : atomB S own (.tup [.str [118, 97, 108], .str x, a, b]) = true := by
      unfold atomB
      simp only [hdv_mk4, show arg 1 (.tup [.str [118, 97, 108], .str x, a, b]) = .str x from rfl, show arg 2 (.tup [.str [118, 97, 108], .str x, a, b]) = a from rfl, show arg 3 (.tup [.str [118, 97, 108], .str x, a, b]) = b from rfl, ga.p, gb.p]
      simp [opOk, isStr, strOf, hx]
    have nx : nmOk x = true := by
      have : ∀ x ∈ ops3, nmOk x = true := by decide
      exact this x hx
    refine ⟨_, rfl, q4, ?_, ?_, fun _ => hat⟩
    · rw [bod_four]
      exact hat
    · have wp := wB_pos d
      exact (gv4 (m := 1) (w := 340) ((gv_nm (x := [118, 97, 108]) (by decide)).mono (by omega) (by omega)) ((gv_nm nx).mono (by omega) (by omega)) ga.g gb.g).mono (by omega) (by simp only [wB]; omega)
  intro d
  induction d with
  | zero =>
    intro k h q
    rw [show k + 0 + 7 = (k + 6) + 1 by omega, c_u_law_body]
    simp [b_u_law_body]
    exact atom 0 k h h q q
  | succ d ih =>
    intro k h q
    rw [show k + (d + 1) + 7 = (k + d + 7) + 1 by omega, c_u_law_body]
    have hd : ((d + 1 + 1 : Nat) : Int) - 1 = ((d + 1 : Nat) : Int) := by omega
    have hd1 : (1 : Int) < ((d + 1 + 1 : Nat) : Int) := by omega
    generalize ((d + 1 + 1 : Nat) : Int) = D at hd hd1
    simp [b_u_law_body, hd1]
    refine Ev.bd (tap_ok 5 hn q (by decide) (by decide)) ?_
    rintro v h1 ⟨q1, w, e, w0, w1⟩
    simp only at e q1
    subst e
    by_cases e3 : w = 3
    · subst e3
      simp [hd]
      refine Ev.bd (ih k h1 q1) ?_
      rintro a h2 ⟨q2, ga⟩
      simp only at ga q2
      rw [fin_rt' (by rw [q2.1, q.1])]
      refine ⟨_, rfl, q2, ?_, ?_, fun e => by omega⟩
      · rw [bod_not]
        exact ga.b
      · exact (gv_not (gv_nm (by decide)) ga.g (wB_pos _)).mono (by omega) (Nat.le_refl _)
    · by_cases e4 : w = 4
      · subst e4
        simp
        refine Ev.bd (tap_ok 4 hn q1 (by decide) (by decide)) ?_
        rintro v h2 ⟨q2, t, e, t0, t1⟩
        simp only at e q2
        subst e
        simp [rng1V_ok t0 (show t ≤ 1000000 by omega)]
        refine Ev.bd (lcL_inv (Hq L) (BodV S own (d + 1)) (rngL 0 t.toNat) h2 q2 ?_) ?_
        · intro x hx
          refine ⟨_, rfl, fun h3 q3 => ?_⟩
          simp [q3, hd]
          exact (ih k h3 q3).imp fun r h => ⟨h.2, h.1⟩
        rintro ys h3 ⟨gy, hl, q3⟩
        rw [rngL_length] at hl
        simp only at gy hl q3
        have hl3 : ys.length ≤ 3 := by omega
        refine Ev.bd (choice_ok (xs := [.str [97, 110, 100], .str [111, 114]]) hn q3 (by simp) (by simp)) ?_
        rintro v h4 ⟨q4, hv⟩
        simp only at hv q4
        have : ∃ x, v = .str x ∧ (x = [97, 110, 100] ∨ x = [111, 114]) := by
          rcases List.mem_cons.mp hv with e | hv
          · exact ⟨_, e, .inl rfl⟩
          · rcases List.mem_cons.mp hv with e | hv
            · exact ⟨_, e, .inr rfl⟩
            · cases hv
        obtain ⟨x, rfl, hx⟩ := this
        rw [fin_rt' (by rw [q4.1, q.1])]
        refine ⟨_, rfl, q4, ?_, ?_, fun e => by omega⟩
        · rw [bod_join hx]
          exact List.all_eq_true.mpr fun y hy => (gy y hy).b
        · have nx : nmOk x = true := by rcases hx with e | e <;> subst e <;> decide
          exact (gv_join (gv_nm nx) hl3 (fun p hp => (gy p hp).g) (wB_pos _)).mono (by omega) (Nat.le_refl _)
      · simp [e3, e4]
        rw [show k + d + 7 = (k + d + 1) + 6 by omega]
        exact atom (d + 1) (k + d + 1) h h1 q q1
end
end k05

set_option maxRecDepth 100000
namespace k05
open Lt PySem
section
variable {k L n : Nat} {h : PH} {S : Sd} {own : List Tx}
theorem grd_join {m : Nat} {w : Tx} {ps : List PV} (e : w = [97, 110, 100] ∨ w = [111, 114]) : grd S own (m + 1) (.tup [.str w, .tup ps]) = ps.all (grd S own m) := by
  rw [grd, if_pos (joined_mk e)]
  rfl
theorem grd_four {m : Nat} {a b c d : PV} : grd S own (m + 1) (.tup [a, b, c, d]) = atomG S own (.tup [a, b, c, d]) := by
  rw [grd, if_neg (by rw [joined_four]; simp)]
structure GrdV (S : Sd) (own : List Tx) (d : Nat) (v : PV) : Prop where
  b : grd S own d v = true
  g : GV (2 * d) (wB d) v
/-- an own name's term, or a position's -/
structure GtmV (S : Sd) (own : List Tx) (v : PV) : Prop where
  p : gterm S own v = true
  g : GV 1 170 v
theorem gtm_own (o : OwnF S own) {x : Tx} (hx : x ∈ own) : GtmV S own (.tup [.str x, .int 0]) := by
  refine ⟨?_, (gv2 (gv_nm (W7_nm x (o.f x hx).2.2)) (gv_num (by decide))).mono (by decide) (by decide)⟩
  unfold gterm
  rw [plc_own hx]
  simp [isZero, arg, items]
theorem gtm_plc (d : S.Drawn) (o : OwnF S own) {x : Tx} {i : Int} (hx : x ∈ pnames S) (hi : i ∈ nums) : GtmV S own (.tup [.str x, .int i]) := by
  have pv := plcV_mk d hx hi
  refine ⟨?_, pv.g⟩
  unfold gterm
  rw [plc_mono pv.p]
  simp [inOwn, arg, items, strOf, o.pn hx]
theorem guard_ok (sd : S.Drawn) (o : OwnF S own) (one : own ≠ []) (hn : n < L) : ∀ (d : Nat) (k : Nat) (h : PH), Hq L h → Ev (callS T (k + d + 6) n_u_law_guard [.ref n, S.v, .tup (own.map .str), .int (d + 1 : Nat)] h) fun r => Hq L r.2 ∧ GrdV S own (d + 1) r.1 := by
  have wp := o.le
  have done : ∀ (d : Nat) (h h' : PH) (x : Tx) (a b : PV), Hq L h → Hq L h' → x ∈ [[60, 61], [61, 61]] → GtmV S own a → GtmV S own b → (inOwn own (arg 0 a) || inOwn own (arg 0 b)) = true → Ev (fin true (List.length h) (some (.rt (.tup [.str [112, 111, 115], .str x, a, b]) h'))) fun r => Hq L r.2 ∧ GrdV S own (d + 1) r.1 := by
    intro d h h' x a b q q' hx ga gb ho
    rw [fin_rt' (by rw [q'.1, q.1])]
    refine ⟨_, rfl, q', ?_, ?_⟩
    · rw [grd_four]
      unfold atomG
      simp only [hdv_mk4, show arg 1 (.tup [.str [112, 111, 115], .str x, a, b]) = .str x from rfl, show arg 2 (.tup [.str [112, 111, 115], .str x, a, b]) = a from rfl, show arg 3 (.tup [.str [112, 111, 115], .str x, a, b]) = b from rfl, ga.p, gb.p, ho]
      simp [opOk, isStr, strOf]
      simpa using hx
    · have nx : nmOk x = true := by
        have : ∀ x ∈ ([[60, 61], [61, 61]] : List Tx), nmOk x = true := by decide
        exact this x hx
      have wp := wB_pos d
      exact (gv4 (m := 1) (w := 170) ((gv_nm (x := [112, 111, 115]) (by decide)).mono (by omega) (by omega)) ((gv_nm nx).mono (by omega) (by omega)) ga.g gb.g).mono (by omega) (by simp only [wB]; omega)
  have rest : ∀ (d : Nat) (k : Nat) (h h1 : PH) (s : Sl) (D : PV), Hq L h → Hq L h1 → s = [some (.ref n), some S.v, some (.tup (own.map .str)), some D, none, none, none, none, none] →
      Ev (fin true (List.length h) ((sSq (sP2 6 7 (aC (xTup (aC (xCall (callS T (k + 5) n_u_law_choice) (aC (xV 0) (aC (xV 2) aN))) (aC (xC (.int 0)) aN))) (aC (xCall (callS T (k + 5) n_u_law_place) (aC (xV 0) (aC (xV 1) aN))) aN)))
      (sSq (sIf (tBo true (tTr (xCmp .gt (xCall (biV .len) (aC (xV 2) aN)) (xC (.int 1)))) (tB1 true (tTr (xCmp .eq (xCall (callS T (k + 5) n_u_law_tap) (aC (xV 0) (aC (xC (.int 3)) aN))) (xC (.int 0)))))) (sSt 7 (xTup (aC (xCall (callS T (k + 5) n_u_law_choice) (aC (xV 0) (aC (xV 2) aN))) (aC (xC (.int 0)) aN)))) sNx)
      (sSq (sSt 4 (xIf (tTr (xCmp .eq (xCall (callS T (k + 5) n_u_law_tap) (aC (xV 0) (aC (xC (.int 2)) aN))) (xC (.int 0)))) (xTup (aC (xV 6) (aC (xV 7) aN))) (xTup (aC (xV 7) (aC (xV 6) aN)))))
      (sRt (xOp .add (xTup (aC (xC (.str [112, 111, 115])) (aC (xCall (callS T (k + 5) n_u_law_choice) (aC (xV 0) (aC (xLst false (aC (xC (.str [60, 61])) (aC (xC (.str [60, 61])) (aC (xC (.str [61, 61])) aN)))) aN))) aN))) (xV 4)))))) s h1)) fun r => Hq L r.2 ∧ GrdV S own (d + 1) r.1 := by
    rintro d k h h1 s D q q1 rfl
    have last : ∀ (a b : PV) (h' : PH), Hq L h' → GtmV S own a → GtmV S own b → (inOwn own (arg 0 a) || inOwn own (arg 0 b)) = true → Ev (bd (callS T (k + 5) n_u_law_choice [.ref n, .lst [.str [60, 61], .str [60, 61], .str [61, 61]]] h') fun v h_1 => bd (ob (opV .add (.tup [.str [112, 111, 115], v]) (.tup [a, b])) fun v => some (v, h_1)) fun v h_2 => fin true (List.length h) (some (.rt v h_2))) fun r => Hq L r.2 ∧ GrdV S own (d + 1) r.1 := by
      intro a b h' q' ga gb ho
      refine Ev.bd (choice_ok (xs := [.str [60, 61], .str [60, 61], .str [61, 61]]) hn q' (by simp) (by simp)) ?_
      rintro v h4 ⟨q4, hv⟩
      simp only at hv q4
      have : ∃ x, v = .str x ∧ x ∈ ([[60, 61], [61, 61]] : List Tx) := by
        rcases List.mem_cons.mp hv with e | hv
        · exact ⟨_, e, by decide⟩
        · rcases List.mem_cons.mp hv with e | hv
          · exact ⟨_, e, by decide⟩
          · rcases List.mem_cons.mp hv with e | hv
            · exact ⟨_, e, by decide⟩
            · cases hv
      obtain ⟨x, rfl, hx⟩ := this
      simp [op_addT]
      exact done d h h4 x a b q q4 hx ga gb ho
    have swap : ∀ (a b : PV) (h' : PH), Hq L h' → GtmV S own a → GtmV S own b → inOwn own (arg 0 a) = true → ∀ W : PV → PV → PH → M PV, (∀ a b h', Hq L h' → GtmV S own a → GtmV S own b → (inOwn own (arg 0 a) || inOwn own (arg 0 b)) = true → Ev (W a b h') fun r => Hq L r.2 ∧ GrdV S own (d + 1) r.1) → Ev (bd (callS T (k + 5) n_u_law_tap [.ref n, .int 2] h') fun v h_1 => bd (ob (eqV v (.int 0)) fun v => some (.bl v, h_1)) fun v h_2 => bd (ob (truthV h_2 v) fun t => some (t, h_2)) fun v h_3 => ib v (W a b h_3) (W b a h_3)) fun r => Hq L r.2 ∧ GrdV S own (d + 1) r.1 := by
      intro a b h' q' ga gb ho W hW
      refine Ev.bd (tap_ok 2 hn q' (by decide) (by decide)) ?_
      rintro v h4 ⟨q4, w, e, w0, w1⟩
      simp only at e q4
      subst e
      by_cases e : w = 0
      · simp [e]
        exact hW a b h4 q4 ga gb (by rw [ho]; rfl)
      · simp [e]
        exact hW b a h4 q4 gb ga (by rw [ho]; simp)
    simp
    refine Ev.bd (choiceT_ok hn q1 (by simpa using one) (by rw [List.length_map]; omega)) ?_
    rintro v h2 ⟨q2, hv⟩
    simp only at hv q2
    obtain ⟨x, hx, rfl⟩ := List.mem_map.mp hv
    refine Ev.bd (place_ok (k := k + 1) hn q2 sd) ?_
    rintro v h3 ⟨q3, y, i, e, hy, hi⟩
    simp only at e q3
    subst e
    have ga := gtm_own (S := S) o hx
    have gb := gtm_plc sd o hy hi
    have ho : inOwn own (arg 0 (.tup [.str x, .int 0])) = true := by simp [inOwn, arg, items, strOf, hx]
    by_cases e1 : (1 : Int) < own.length
    · simp [e1]
      refine Ev.bd (tap_ok 3 hn q3 (by decide) (by decide)) ?_
      rintro v h4 ⟨q4, w, e, w0, w1⟩
      simp only at e q4
      subst e
      by_cases e2 : w = 0
      · simp [e2]
        refine Ev.bd (choiceT_ok hn q4 (by simpa using one) (by rw [List.length_map]; omega)) ?_
        rintro v h5 ⟨q5, hv⟩
        simp only at hv q5
        obtain ⟨x2, hx2, rfl⟩ := List.mem_map.mp hv
        exact swap _ _ h5 q5 ga (gtm_own o hx2) ho _ last
      · simp [e2]
        exact swap _ _ h4 q4 ga gb ho _ last
    · simp [e1]
      exact swap _ _ h3 q3 ga gb ho _ last
  intro d
  induction d with
  | zero =>
    intro k h q
    rw [show k + 0 + 6 = (k + 5) + 1 by omega, c_u_law_guard]
    have := rest 0 k h h _ (.int 1) q q rfl
    simp only [b_u_law_guard]
    rw [ap_sSq]
    simp only [ap_sIf, ap_tBo, ap_tTr, ap_xCmp, ap_xV, ap_xC, List.getElem?_cons_succ, List.getElem?_cons_zero, bd_some, cmp_gt, ob_some, truth_bl, nxt_nx, ap_sNx]
    simp only [show decide ((1 : Int) < ((0 + 1 : Nat) : Int)) = false from by decide, show (false == true) = false from rfl, ib_false, bd_some, nxt_nx]
    exact this
  | succ d ih =>
    intro k h q
    rw [show k + (d + 1) + 6 = (k + d + 6) + 1 by omega, c_u_law_guard]
    have hd : ((d + 1 + 1 : Nat) : Int) - 1 = ((d + 1 : Nat) : Int) := by omega
    have hd1 : (1 : Int) < ((d + 1 + 1 : Nat) : Int) := by omega
    generalize ((d + 1 + 1 : Nat) : Int) = D at hd hd1
    simp only [b_u_law_guard]
    rw [ap_sSq]
    have R := rest (d + 1) (k + d + 1) h
    rw [show k + d + 1 + 5 = k + d + 6 by omega] at R
    simp only [ap_sIf, ap_tBo, ap_tTr, ap_xCmp, ap_xV, ap_xC, List.getElem?_cons_succ, List.getElem?_cons_zero, bd_some, cmp_gt, ob_some, truth_bl, nxt_nx, ap_sNx, hd1, decide_true, show (true == true) = true from rfl, ib_true, ap_tB1, ap_xCall, ap_aC, ap_aN, bd_bd, nxt_bd, fin_bd, ob_bd]
    refine Ev.bd (tap_ok 2 hn q (by decide) (by decide)) ?_
    rintro v h1 ⟨q1, w, e, w0, w1⟩
    simp only at e q1
    subst e
    by_cases e2 : w = 0
    · simp [e2]
      refine Ev.bd (tap_ok 4 hn q1 (by decide) (by decide)) ?_
      rintro v h2 ⟨q2, t, e, t0, t1⟩
      simp only at e q2
      subst e
      simp [rng1V_ok t0 (show t ≤ 1000000 by omega)]
      refine Ev.bd (lcL_inv (Hq L) (GrdV S own (d + 1)) (rngL 0 t.toNat) h2 q2 ?_) ?_
      · intro x hx
        refine ⟨_, rfl, fun h3 q3 => ?_⟩
        simp [q3, hd]
        exact (ih k h3 q3).imp fun r h => ⟨h.2, h.1⟩
      rintro ys h3 ⟨gy, hl, q3⟩
      rw [rngL_length] at hl
      simp only at gy hl q3
      have hl3 : ys.length ≤ 3 := by omega
      refine Ev.bd (choice_ok (xs := [.str [97, 110, 100], .str [97, 110, 100], .str [111, 114]]) hn q3 (by simp) (by simp)) ?_
      rintro v h4 ⟨q4, hv⟩
      simp only at hv q4
      have : ∃ x, v = .str x ∧ (x = [97, 110, 100] ∨ x = [111, 114]) := by
        rcases List.mem_cons.mp hv with e | hv
        · exact ⟨_, e, .inl rfl⟩
        · rcases List.mem_cons.mp hv with e | hv
          · exact ⟨_, e, .inl rfl⟩
          · rcases List.mem_cons.mp hv with e | hv
            · exact ⟨_, e, .inr rfl⟩
            · cases hv
      obtain ⟨x, rfl, hx⟩ := this
      rw [fin_rt' (by rw [q4.1, q.1])]
      refine ⟨_, rfl, q4, ?_, ?_⟩
      · rw [grd_join hx]
        exact List.all_eq_true.mpr fun y hy => (gy y hy).b
      · have nx : nmOk x = true := by rcases hx with e | e <;> subst e <;> decide
        exact (gv_join (gv_nm nx) hl3 (fun p hp => (gy p hp).g) (wB_pos _)).mono (by omega) (Nat.le_refl _)
    · simp only [cmp_eq, eqV_int, ob_some, bd_some, truth_bl, e2, decide_false, show (false == true) = false from rfl, ib_false, nxt_nx]
      exact R h1 _ (.int D) q q1 rfl
end
end k05

set_option maxRecDepth 100000
namespace k05
open Lt PySem
section
variable {k L n : Nat} {h : PH} {S : Sd} {own : List Tx}
theorem clm_not {m : Nat} {a : PV} : clm S (m + 1) (.tup [.str [110, 111, 116], a]) = clm S m a := by
  rw [clm, if_neg (by rw [joined_not]; simp), if_pos hdv_mk2]
  rfl
theorem clm_join {m : Nat} {w : Tx} {ps : List PV} (e : w = [97, 110, 100] ∨ w = [111, 114]) : clm S (m + 1) (.tup [.str w, .tup ps]) = ps.all (clm S m) := by
  rw [clm, if_pos (joined_mk e)]
  rfl
theorem clm_all {m : Nat} {a b c : PV} : clm S (m + 1) (.tup [.str [97, 108, 108], a, b, c]) = (ownOk S a && (grd S (allT (items a)) m b && bod S (allT (items a)) m c)) := by
  rw [clm, if_neg (by rw [joined_four]; simp), if_neg (by rw [hdv_24]; simp), if_pos hdv_mk4]
  rfl
theorem hdv_4 {w x : Tx} {a b c : PV} (e : x ≠ w) : hdv w 4 (.tup [.str x, a, b, c]) = false := by simp [hdv, isTup, items, arg, isStr, strOf, e]
theorem clm_atom {m : Nat} {x : Tx} {a b c : PV} (e : x ≠ [97, 108, 108]) : clm S (m + 1) (.tup [.str x, a, b, c]) = (atomP S (.tup [.str x, a, b, c]) || atomB S [] (.tup [.str x, a, b, c])) := by
  rw [clm, if_neg (by rw [joined_four]; simp), if_neg (by rw [hdv_24]; simp), if_neg (by rw [hdv_4 e]; simp)]
/-- an atom -/
def atomC (S : Sd) (v : PV) : Bool := atomP S v || atomB S [] v
theorem atomC_form {v : PV} (e : atomC S v = true) : ∃ x a b c, v = .tup [.str x, a, b, c] ∧ (x = [112, 111, 115] ∨ x = [118, 97, 108]) := by
  unfold atomC atomP atomB at e
  rw [Bool.or_eq_true] at e
  rcases e with e | e <;> rw [Bool.and_eq_true] at e
  · obtain ⟨a, b, c, rfl⟩ := hdv_four e.1
    exact ⟨_, a, b, c, rfl, .inl rfl⟩
  · obtain ⟨a, b, c, rfl⟩ := hdv_four e.1
    exact ⟨_, a, b, c, rfl, .inr rfl⟩
theorem clm_of_atom {m : Nat} {v : PV} (e : atomC S v = true) : clm S (m + 1) v = true := by
  obtain ⟨x, a, b, c, rfl, hx⟩ := atomC_form e
  rw [clm_atom (by rcases hx with e | e <;> subst e <;> decide)]
  exact e
structure ClmV (S : Sd) (d : Nat) (v : PV) : Prop where
  b : clm S d v = true
  g : GV (2 * d) (wB d) v
  a : d = 1 → atomC S v = true
theorem claim_ok (sd : S.Drawn) (hn : n < L) : ∀ (d : Nat) (k : Nat) (h : PH), Hq L h → Ev (callS T (k + d + 8) n_u_law_claim [.ref n, S.v, .int (d + 1 : Nat)] h) fun r => Hq L r.2 ∧ ClmV S (d + 1) r.1 := by
  have pos : ∀ (d : Nat) (k : Nat) (h h1 : PH), Hq L h → Hq L h1 → Ev (bd (callS T (k + 7) n_u_law_choice [.ref n, .lst [.str [60, 61], .str [60], .str [61, 61]]] h1) fun v h_1 => bd (callS T (k + 7) n_u_law_place [.ref n, S.v] h_1) fun v_1 h_2 => bd (callS T (k + 7) n_u_law_place [.ref n, S.v] h_2) fun v_2 h_3 => fin true (List.length h) (some (.rt (.tup [.str [112, 111, 115], v, v_1, v_2]) h_3))) fun r => Hq L r.2 ∧ ClmV S (d + 1) r.1 := fun d k h h1 q q1 => by
    refine Ev.bd (choice_ok (xs := [.str [60, 61], .str [60], .str [61, 61]]) hn q1 (by simp) (by simp)) ?_
    rintro v h2 ⟨q2, hv⟩
    simp only at hv q2
    have : ∃ x, v = .str x ∧ x ∈ ops3 := by
      rcases List.mem_cons.mp hv with e | hv
      · exact ⟨_, e, by decide⟩
      · rcases List.mem_cons.mp hv with e | hv
        · exact ⟨_, e, by decide⟩
        · rcases List.mem_cons.mp hv with e | hv
          · exact ⟨_, e, by decide⟩
          · cases hv
    obtain ⟨x, rfl, hx⟩ := this
    refine Ev.bd (place_ok (k := k + 3) hn q2 sd) ?_
    rintro a h3 ⟨q3, y, i, ea, hy, hi⟩
    refine Ev.bd (place_ok (k := k + 3) hn q3 sd) ?_
    rintro b h4 ⟨q4, y2, i2, eb, hy2, hi2⟩
    simp only at ea eb q3 q4
    subst ea eb
    have ga := plcV_mk sd hy hi
    have gb := plcV_mk sd hy2 hi2
    rw [fin_rt' (by rw [q4.1, q.1])]
    have hat : atomC S (.tup [.str [112, 111, 115], .str x, .tup [.str y, .int i], .tup [.str y2, .int i2]]) = true := by
      unfold atomC atomP
      simp only [hdv_mk4, show arg 1 (.tup [.str [112, 111, 115], .str x, .tup [.str y, .int i], .tup [.str y2, .int i2]]) = .str x from rfl, show arg 2 (.tup [.str [112, 111, 115], .str x, .tup [.str y, .int i], .tup [.str y2, .int i2]]) = .tup [.str y, .int i] from rfl, show arg 3 (.tup [.str [112, 111, 115], .str x, .tup [.str y, .int i], .tup [.str y2, .int i2]]) = .tup [.str y2, .int i2] from rfl, ga.p, gb.p]
      simp [opOk, isStr, strOf, hx]
    have nx : nmOk x = true := by
      have : ∀ x ∈ ops3, nmOk x = true := by decide
      exact this x hx
    refine ⟨_, rfl, q4, clm_of_atom hat, ?_, fun _ => hat⟩
    have wp := wB_pos d
    exact (gv4 (m := 1) (w := 340) ((gv_nm (x := [112, 111, 115]) (by decide)).mono (by omega) (by omega)) ((gv_nm nx).mono (by omega) (by omega)) (ga.g.mono (by omega) (by omega)) (gb.g.mono (by omega) (by omega))).mono (by omega) (by simp only [wB]; omega)
  have bdy : ∀ (d : Nat) (k : Nat) (h h1 : PH), Hq L h → Hq L h1 → Ev (bd (callS T (k + 7) n_u_law_body [.ref n, S.v, .tup [], .int 1] h1) fun v h_1 => fin true (List.length h) (some (.rt v h_1))) fun r => Hq L r.2 ∧ ClmV S (d + 1) r.1 := fun d k h h1 q q1 => by
    refine Ev.bd (body_ok (own := []) sd .nil hn 0 k h1 q1) ?_
    rintro a h2 ⟨q2, ga⟩
    simp only at ga q2
    rw [fin_rt' (by rw [q2.1, q.1])]
    have hat : atomC S a = true := by
      unfold atomC
      rw [ga.a rfl, Bool.or_true]
    exact ⟨_, rfl, q2, clm_of_atom hat, ga.g.mono (by omega) (wB_le (by omega)), fun _ => hat⟩
  intro d
  induction d with
  | zero =>
    intro k h q
    rw [show k + 0 + 8 = (k + 7) + 1 by omega, c_u_law_claim]
    simp [b_u_law_claim]
    refine Ev.bd (tap_ok 3 hn q (by decide) (by decide)) ?_
    rintro v h1 ⟨q1, w, e, w0, w1⟩
    simp only at e q1
    subst e
    by_cases e0 : w = 0
    · simp [e0]
      exact pos 0 k h h1 q q1
    · simp [e0, w1]
      exact bdy 0 k h h1 q q1
  | succ d ih =>
    intro k h q
    rw [show k + (d + 1) + 8 = (k + d + 8) + 1 by omega, c_u_law_claim]
    have hd : ((d + 1 + 1 : Nat) : Int) - 1 = ((d + 1 : Nat) : Int) := by omega
    have hd1 : (1 : Int) < ((d + 1 + 1 : Nat) : Int) := by omega
    generalize ((d + 1 + 1 : Nat) : Int) = D at hd hd1
    simp [b_u_law_claim, hd1]
    refine Ev.bd (tap_ok 9 hn q (by decide) (by decide)) ?_
    rintro v h1 ⟨q1, w, e, w0, w1⟩
    simp only at e q1
    subst e
    by_cases e0 : w = 0
    · simp [e0]
      exact pos (d + 1) (k + d + 1) h h1 q q1
    · by_cases e1 : w < 3
      · simp [e0, e1]
        exact bdy (d + 1) (k + d + 1) h h1 q q1
      · by_cases e3 : w = 3
        · subst e3
          simp [hd]
          refine Ev.bd (ih k h1 q1) ?_
          rintro a h2 ⟨q2, ga⟩
          simp only at ga q2
          rw [fin_rt' (by rw [q2.1, q.1])]
          refine ⟨_, rfl, q2, ?_, ?_, fun e => by omega⟩
          · rw [clm_not]
            exact ga.b
          · exact (gv_not (gv_nm (by decide)) ga.g (wB_pos _)).mono (by omega) (Nat.le_refl _)
        · by_cases e6 : w < 6
          · simp [e0, e1, e3, e6]
            refine Ev.bd (tap_ok 4 hn q1 (by decide) (by decide)) ?_
            rintro v h2 ⟨q2, t, e, t0, t1⟩
            simp only at e q2
            subst e
            simp [rng1V_ok t0 (show t ≤ 1000000 by omega)]
            refine Ev.bd (lcL_inv (Hq L) (ClmV S (d + 1)) (rngL 0 t.toNat) h2 q2 ?_) ?_
            · intro x hx
              refine ⟨_, rfl, fun h3 q3 => ?_⟩
              simp [q3, hd]
              exact (ih k h3 q3).imp fun r h => ⟨h.2, h.1⟩
            rintro ys h3 ⟨gy, hl, q3⟩
            rw [rngL_length] at hl
            simp only at gy hl q3
            have hl3 : ys.length ≤ 3 := by omega
            refine Ev.bd (choice_ok (xs := [.str [97, 110, 100], .str [111, 114]]) hn q3 (by simp) (by simp)) ?_
            rintro v h4 ⟨q4, hv⟩
            simp only at hv q4
            have : ∃ x, v = .str x ∧ (x = [97, 110, 100] ∨ x = [111, 114]) := by
              rcases List.mem_cons.mp hv with e | hv
              · exact ⟨_, e, .inl rfl⟩
              · rcases List.mem_cons.mp hv with e | hv
                · exact ⟨_, e, .inr rfl⟩
                · cases hv
            obtain ⟨x, rfl, hx⟩ := this
            rw [fin_rt' (by rw [q4.1, q.1])]
            refine ⟨_, rfl, q4, ?_, ?_, fun e => by omega⟩
            · rw [clm_join hx]
              exact List.all_eq_true.mpr fun y hy => (gy y hy).b
            · have nx : nmOk x = true := by rcases hx with e | e <;> subst e <;> decide
              exact (gv_join (gv_nm nx) hl3 (fun p hp => (gy p hp).g) (wB_pos _)).mono (by omega) (Nat.le_refl _)
          · simp [e0, e1, e3, e6, hd]
            refine Ev.bd (own_names_ok (k := k + d + 5) hn q1 sd) ?_
            rintro v h2 ⟨q2, own, e, ow⟩
            simp only at e q2
            subst e
            have G := guard_ok sd ow.f ow.ne hn d (k + 2) h2 q2
            rw [show k + 2 + d + 6 = k + d + 8 by omega] at G
            refine Ev.bd G ?_
            rintro a h3 ⟨q3, ga⟩
            have B := body_ok sd ow.f hn d (k + 1) h3 q3
            rw [show k + 1 + d + 7 = k + d + 8 by omega] at B
            refine Ev.bd B ?_
            rintro b h4 ⟨q4, gb⟩
            simp only at ga gb q3 q4
            rw [fin_rt' (by rw [q4.1, q.1])]
            refine ⟨_, rfl, q4, ?_, ?_, fun e => by omega⟩
            · have e : allT (items (.tup (own.map .str))) = own := by
                show (own.map PV.str).map strOf = own
                rw [List.map_map]
                exact List.map_id _
              rw [clm_all, ow.ok, e, ga.b, gb.b]
              rfl
            · have wp := wB_pos (d + 1)
              have go : GV 1 170 (.tup (own.map .str)) := (gv_tup (n := 0) (w := 82) (m := 2) (fun y hy => by
                obtain ⟨x, hx, rfl⟩ := List.mem_map.mp hy
                exact gv_nm (W7_nm x (ow.w x hx))) (by rw [List.length_map]; exact ow.le)).mono (by decide) (by decide)
              exact (gv4 (m := 2 * (d + 1)) (w := wB (d + 1)) ((gv_nm (x := [97, 108, 108]) (by decide)).mono (by omega) (by omega)) (go.mono (by omega) (by omega)) ga.g gb.g).mono (by omega) (by simp only [wB] at wp ⊢; omega)
end
end k05

set_option maxRecDepth 100000
namespace Lt
open PySem
mutual
theorem okV_cl {n : Nat} : ∀ (v : PV), okV v = true → v.cl n = true
  | .non, _ => rfl
  | .bl _, _ => rfl
  | .int _, _ => rfl
  | .str _, _ => rfl
  | .tup l, h => okVs_cl l (by simpa only [okV] using h)
  | .lst l, h => okVs_cl l (by simpa only [okV] using h)
  | .dct [] [], _ => rfl
  | .dct [] (x :: l), h => by simp [okV] at h
  | .dct (k :: ks) l, h => by simp [okV] at h
  | .obj _ _, h => by simp [okV] at h
  | .ref _, h => by simp [okV] at h
  | .scr _, h => by simp [okV] at h
  | .rtx _, h => by simp [okV] at h
  | .ptup _, h => by simp [okV] at h
theorem okVs_cl {n : Nat} : ∀ (l : List PV), okVs l = true → PV.cls n l = true
  | [], _ => rfl
  | x :: l, h => by
    have h' : okV x = true ∧ okVs l = true := by simpa only [okVs, Bool.and_eq_true] using h
    show (PV.cl n x && PV.cls n l) = true
    rw [okV_cl x h'.1, okVs_cl l h'.2]
    rfl
end
def gvB (n w : Nat) (v : PV) : Bool := okV v && (decide (dpt v ≤ n) && decide (wt v ≤ w))
theorem gvB_ok {n w : Nat} {v : PV} (e : gvB n w v = true) : GV n w v := by
  unfold gvB at e
  simp only [Bool.and_eq_true, decide_eq_true_eq] at e
  exact ⟨e.1, e.2.1, e.2.2⟩
end Lt
namespace k05
open Lt PySem
def oddL (x : Tx) : List PV := [.str x, .tup [.str x, .int 0], .tup [.str x, .int 1], .tup [.str x, .int (-1)], .tup [.str [], .int 1000000000000000000000000000000000000000000000000000000000000], .tup [.str x, .bl true], .tup [.str x, .non], .tup [.str x], .non, .int 0, .bl true,
  .tup [.str x, .str [], .int 0, .int 0], .tup [.str x, .str x, .int 0, .int 0], .tup [.str x, .str [107], .int 0, .int 0], .tup [.str x, .str [107], .int 1, .int 0], .tup [.str x, .str [107], .int 0, .str [48]],
  .tup [.str [97, 110, 100], .tup []], .tup [.str [111, 114], .lst []], .tup [.str [110, 111, 116], .tup []], .tup [.str [97, 110, 100], .tup [.non]], .lst [], .dct [] [], .tup [], .str [60, 61], .str [60], .str [61, 61], .str [62], .str [33, 61],
  .tup [.str [112, 111, 115], .str [60, 61], .tup [.str [107], .int 0], .tup [.str x, .int 0]], .tup [.str [112, 111, 115], .str [60], .tup [.str [107], .int 0], .tup [.str [], .int 0]],
  .tup [.str [118, 97, 108], .str [60], .tup [.str x, .int 0], .tup [.str [], .int 0]],
  .tup [.str [97, 108, 108], .tup [.str [107]], .tup [.str [97, 110, 100], .tup []], .tup [.str [97, 110, 100], .tup []]], .tup [.str [107]], .tup [.str [107], .str [107, 107]], .tup [.str [107], .str [107]], .tup [.str x, .str [107, 107]], .lst [.str [107]],
  .str [112, 111, 115], .str [118, 97, 108], .str [97, 110, 100], .str [111, 114], .str [110, 111, 116], .str [97, 108, 108], .str [65, 108, 108], .tup [.str [112, 111, 115], .str [60, 61], .tup [.str [], .int 0], .tup [.str x, .int 0]], .int 1, .int (-1)]
theorem oddL_gv {x : Tx} (e : okV (.str x) = true) (z : x.length ≤ 9) : ∀ v ∈ oddL x, GV 3 1000 v := by
  have e' : (x.all fun c => decide (c < 4294967296)) = true := by simpa only [okV] using e
  have : (oddL x).all (gvB 3 1000) = true := by
    simp only [oddL, List.all_cons, List.all_nil, Bool.and_true, Bool.and_eq_true]
    simp [gvB, okV, okVs, dpt, dpts, wt, wts, e']
    omega
  exact fun v hv => gvB_ok (List.all_eq_true.mp this v hv)
section
variable {k L n : Nat} {h : PH} {S : Sd} {own : List Tx}
theorem choice0 {a b c : Int} {xs : List PV} (e : h[n]? = some (.lst [.int a, .int b, .int c])) (h0 : xs ≠ []) (h1 : xs.length < 1000000) : Ev (callS T (k + 2) n_u_law_choice [.ref n, .lst xs] h) fun r => r.1 ∈ xs ∧ ∃ a b c, r.2 = h.set n (.lst [.int a, .int b, .int c]) := by
  have hp : 0 < xs.length := List.length_pos_iff.mpr h0
  rw [c_u_law_choice]
  simp [b_u_law_choice]
  refine Ev.bd (tap0 _ e (by omega) (by omega)) ?_
  rintro v h1 ⟨⟨i, e, i0, i1⟩, a, b, c, eh⟩
  obtain ⟨j, rfl⟩ := Int.eq_ofNat_of_zero_le i0
  have hj : j < xs.length := by omega
  simp only at e eh
  subst e eh
  simp [ix_lst, hj]
  rw [fin_rt' (by simp)]
  simp
  exact ⟨a, b, c, rfl⟩
def oddN : List Tx := [[], [107], [107, 107], [122], [111, 119, 110], [75], [110, 105, 110, 101, 108, 101, 116, 116, 101], [110, 111, 116], [42, 49]]
theorem odd_ok (sd : S.Drawn) (hn : n < L) (q : Hq L h) {v : PV} : Ev (callS T (k + 3) n_u_law_odd [.ref n, S.v, v] h) fun r => Hq L r.2 ∧ GV 3 1000 r.1 := by
  have an := all_names_ok (k := k + 1) (h := h) sd.a sd.p sd.v
  have ha := sd.a3
  have hp := sd.p3
  have hv := sd.v3
  have l1 : S.an.length = S.A.length := List.length_map ..
  have l2 : S.ln.length = S.A.length := List.length_map ..
  have hN : ([.str [], .str [107], .str [107, 107], .str [122], .str [111, 119, 110], .str [75], .str [110, 105, 110, 101, 108, 101, 116, 116, 101], .str [110, 111, 116], .str [42, 49]] : List PV) = oddN.map .str := rfl
  have la : opV .add (.lst ((S.an ++ (S.ln ++ (S.P ++ S.V))).map .str)) (.lst (oddN.map .str)) = some (.lst (((S.an ++ (S.ln ++ (S.P ++ S.V))) ++ oddN).map .str)) := by
    rw [op_addL (by simp only [List.length_map, List.length_append, show oddN.length = 9 from rfl]; omega), ← List.map_append]
  rw [c_u_law_odd]
  simp only [b_u_law_odd]
  rw [ap_sSq]
  simp only [ap_sSt, ap_xOp, ap_xCall, ap_aC, ap_aN, ap_xV, List.getElem?_cons_succ, List.getElem?_cons_zero, bd_some, an, ap_xLst, ap_xC]
  rw [lstV_ok (by decide)]
  simp only [bd_some]
  rw [hN, la]
  simp [-List.map_append, -List.mem_append, -List.append_assoc]
  refine Ev.bd (choice_ok hn q (by simp [oddN]) (by simp only [List.length_map, List.length_append, show oddN.length = 9 from rfl]; omega)) ?_
  rintro w h1 ⟨q1, hw⟩
  simp only at hw q1
  obtain ⟨x, hx, rfl⟩ := List.mem_map.mp hw
  have ox : okV (.str x) = true ∧ x.length ≤ 9 := by
    rcases List.mem_append.mp hx with hx | hx
    · have := W14_nm x (sd.w x (mem_all.mp hx))
      unfold nmOk at this
      rw [Bool.and_eq_true, decide_eq_true_eq] at this
      exact ⟨this.1, by omega⟩
    · have : ∀ x ∈ oddN, okV (.str x) = true ∧ x.length ≤ 9 := by decide
      exact this x hx
  have og := oddL_gv ox.1 ox.2
  simp [pow60, op_addL]
  have sz : ∀ m, m ≤ 4096 → m ≤ sizeLine := fun m h => Nat.le_trans h (by decide)
  have hl1 := q1.1
  have eL : ∀ l : List PV, (h1 ++ [PO.lst l])[L]? = some (.lst l) := fun l => by rw [List.getElem?_append_right (by omega), hl1]; simp
  have sL : ∀ l m : List PV, (h1 ++ [PO.lst l]).set L (.lst m) = h1 ++ [.lst m] := fun l m => by rw [List.set_append_right _ _ (by omega), hl1]; simp
  simp [sz 30 (by decide), hl1, rcvV, eL, meV, sL, show 30 < sizeLine by decide, lsH, sz 37 (by decide), op_addL]
  obtain ⟨a, b, c, e⟩ := q1.get hn
  have e2 : ∀ l : List PV, (h1 ++ [PO.lst l])[n]? = some (.lst [.int a, .int b, .int c]) := fun l => by rw [List.getElem?_append_left (by omega), e]
  refine Ev.bd (choice0 (e2 _) (by simp) (by simp)) ?_
  rintro v h2 ⟨hv, a', b', c', eh⟩
  simp only at hv eh
  subst eh
  have hg : GV 3 1000 v := og v hv
  rw [List.set_append_left _ _ (by omega)]
  have hq2 := q1.set (n := n) a' b' c'
  show Ev (some (gc true h.length v _)) _
  rw [gc_cut (w := v) (by simp [hl1, q.1]) (by rw [hq2.1, q.1]) hq2.cl (.inl ⟨okV_cl v hg.ok, rfl⟩)]
  exact ⟨_, rfl, hq2, hg⟩
theorem wts_len : ∀ {l : List PV}, l.length * 2 ≤ wts l
  | [] => Nat.zero_le _
  | x :: l => by
    have := wts_len (l := l)
    simp only [wts, List.length_cons]
    omega
theorem op_addT' {l m : List PV} (z : l.length + m.length ≤ sizeLine) : opV .add (.tup l) (.tup m) = some (.tup (l ++ m)) := if_pos z
theorem tupV_nil {h : PH} : tupV [] h = some (.tup [], h) := tupV_ok (by simp)
/-- a value bent -/
theorem dpt_items {m : Nat} {l : List PV} (e : dpt (.tup l) ≤ m + 1) : ∀ x ∈ l, dpt x ≤ m := by
  simp only [dpt] at e
  exact dpts_le.mp (by omega)
theorem bent_ok (sd : S.Drawn) (hn : n < L) : ∀ (d : Nat) (k : Nat) (h : PH) (v : PV) (m w : Nat), w ≤ 1900000 → Hq L h → GV m w v → Ev (callS T (k + d + 4) n_u_law_bent [.ref n, S.v, v, .int d] h) fun r => Hq L r.2 ∧ GV (m + 3) (w + 1010) r.1 := by
  have leaf : ∀ (k : Nat) (h h1 : PH) (v : PV) (D : PV) (m w : Nat) (f : XS), w ≤ 1900000 → Hq L h → Hq L h1 → GV m w v →
      Ev (fin true (List.length h) (nxt ((sSq (sSt 6 (xCall (callS T (k + 3) n_u_law_tap) (aC (xV 0) (aC (xC (.int 9)) aN))))
      (sSq (sIf (tBo true (tTr (xIsi "tuple" (xV 2))) (tB1 true (tTr (xCmp .eq (xV 6) (xC (.int 0)))))) (sRt (xSl true false (xV 2) (xC .non) (xNeg (xC (.int 1))))) sNx)
      (sSq (sIf (tBo true (tTr (xIsi "tuple" (xV 2))) (tB1 true (tTr (xCmp .eq (xV 6) (xC (.int 1)))))) (sRt (xOp .add (xV 2) (xTup (aC (xCall (callS T (k + 3) n_u_law_odd) (aC (xV 0) (aC (xV 1) (aC (xV 2) aN)))) aN)))) sNx)
      (sSq (sIf (tBo true (tTr (xIsi "tuple" (xV 2))) (tB1 true (tTr (xCmp .eq (xV 6) (xC (.int 2)))))) (sRt (xCall (listV false) (aC (xV 2) aN))) sNx)
      (sRt (xCall (callS T (k + 3) n_u_law_odd) (aC (xV 0) (aC (xV 1) (aC (xV 2) aN))))))))) [some (.ref n), some S.v, some v, some D, none, none, none] h1) f)) fun r => Hq L r.2 ∧ GV (m + 3) (w + 1010) r.1 := by
    intro k h h1 v D m w f zw q q1 g
    have pl : Pln v := g.dp'.pln
    have done : ∀ (x : PV) (h' : PH), Hq L h' → GV (m + 3) (w + 1010) x → Ev (fin true (List.length h) (some (.rt x h'))) fun r => Hq L r.2 ∧ GV (m + 3) (w + 1010) r.1 := fun x h' q' g' => by
      rw [fin_rt' (by rw [q'.1, q.1])]
      exact ⟨_, rfl, q', g'⟩
    have odd : ∀ (h' : PH), Hq L h' → Ev (bd (callS T (k + 3) n_u_law_odd [.ref n, S.v, v] h') fun x h_1 => fin true (List.length h) (some (.rt x h_1))) fun r => Hq L r.2 ∧ GV (m + 3) (w + 1010) r.1 := fun h' q' => by
      refine Ev.bd (odd_ok sd hn q') ?_
      rintro x h2 ⟨q2, gx⟩
      exact done x h2 q2 (gx.mono (by omega) (by omega))
    simp [pl.kd]
    refine Ev.bd (tap_ok 9 hn q1 (by decide) (by decide)) ?_
    rintro z h2 ⟨q2, t, e, t0, t1⟩
    simp only at e q2
    subst e
    cases et : isTup v with
    | false =>
      simp [et]
      exact odd h2 q2
    | true =>
      cases v <;> first | cases et | skip
      rename_i l
      have gd := g.dp
      have gw := g.wt
      have go := g.ok
      simp only [dpt, wt, okV] at gd gw go
      obtain ⟨m, rfl⟩ : ∃ m', m = m' + 1 := ⟨m - 1, by omega⟩
      by_cases e0 : t = 0
      · simp [isTup, e0, cut_last]
        refine done _ _ q2 ⟨?_, ?_, ?_⟩
        · simp only [okV]
          exact okVs_iff.mpr fun x hx => okVs_iff.mp go x ((List.dropLast_sublist l).subset hx)
        · simp only [dpt]
          have : dpts l.dropLast ≤ m := dpts_le.mpr fun x hx => dpts_le.mp (show dpts l ≤ m by omega) x ((List.dropLast_sublist l).subset hx)
          omega
        · simp only [wt]
          have : wts l.dropLast ≤ wts l := by
            by_cases e : l = []
            · subst e; simp [wts]
            · have := List.dropLast_concat_getLast e
              have h2 := congrArg wts this
              rw [wts_app] at h2
              omega
          omega
      · by_cases e1 : t = 1
        · simp [isTup, e1]
          refine Ev.bd (odd_ok sd hn q2) ?_
          rintro x h3 ⟨q3, gx⟩
          simp only at gx q3
          have hl := wts_len (l := l)
          rw [op_addT' (by rw [sizeLine_eq, List.length_singleton]; omega)]
          refine done _ _ q3 ⟨?_, ?_, ?_⟩
          · simp only [okV]
            refine okVs_iff.mpr fun y hy => ?_
            rcases List.mem_append.mp hy with hy | hy
            · exact okVs_iff.mp go y hy
            · rw [List.mem_singleton.mp hy]
              exact gx.ok
          · simp only [dpt]
            have : dpts (l ++ [x]) ≤ m + 3 := dpts_le.mpr fun y hy => by
              rcases List.mem_append.mp hy with hy | hy
              · have := dpts_le.mp (show dpts l ≤ m by omega) y hy
                omega
              · rw [List.mem_singleton.mp hy]
                have := gx.dp
                omega
            omega
          · simp only [wt]
            rw [wts_app]
            have := gx.wt
            simp only [wts]
            omega
        · by_cases e2 : t = 2
          · simp [isTup, e2]
            refine done _ _ q2 ⟨by simpa only [okV] using go, by simp only [dpt]; omega, by simp only [wt]; omega⟩
          · simp [isTup, e0, e1, e2]
            exact odd h2 q2
  intro d
  induction d with
  | zero =>
    intro k h v m w zw q g
    have pl : Pln v := g.dp'.pln
    rw [show k + 0 + 4 = (k + 3) + 1 by omega, c_u_law_bent]
    have R := fun f => leaf k h h v (.int 0) m w f (by omega) q q g
    simp only [b_u_law_bent]
    rw [ap_sSq]
    cases et : isTup v with
    | false =>
      simp only [ap_sIf, ap_tBo, ap_tNt, ap_tTr, ap_xIsi, ap_xV, List.getElem?_cons_succ, List.getElem?_cons_zero, bd_some, pl.kd, ob_some, isi_tup, et, truth_bl, Bool.not_false, show (true == false) = false from rfl, ib_false, ib_true]
      exact R _
    | true =>
      cases v <;> first | cases et | skip
      rename_i l
      cases el : l.isEmpty with
      | true =>
        simp only [ap_sIf, ap_tBo, ap_tNt, ap_tTr, ap_xIsi, ap_xV, List.getElem?_cons_succ, List.getElem?_cons_zero, bd_some, kd_tup, isi_tuple_tuple, ob_some, truth_bl, Bool.not_true, show (false == false) = true from rfl, show (true == false) = false from rfl, ib_false, ib_true, ap_xCmp, ap_xTup, ap_aN, tupV_nil, cmp_eq, eqV_tup0, el]
        exact R _
      | false =>
        simp only [ap_sIf, ap_tBo, ap_tB1, ap_tNt, ap_tTr, ap_xIsi, ap_xV, List.getElem?_cons_succ, List.getElem?_cons_zero, bd_some, kd_tup, isi_tuple_tuple, ob_some, truth_bl, Bool.not_true, show (false == false) = true from rfl, show (true == false) = false from rfl, ib_false, ib_true, ap_xCmp, ap_xTup, ap_aN, tupV_nil, cmp_eq, eqV_tup0, el, ap_xC, eqV_int, Int.ofNat_zero, decide_true, Int.cast_ofNat_Int]
        exact R _
  | succ d ih =>
    intro k h v m w zw q g
    have pl : Pln v := g.dp'.pln
    rw [show k + (d + 1) + 4 = (k + d + 4) + 1 by omega, c_u_law_bent]
    have R := fun h1 q1 f => leaf (k + d + 1) h h1 v (.int (d + 1 : Nat)) m w f (by omega) q q1 g
    rw [show k + d + 1 + 3 = k + d + 4 by omega] at R
    have hd : ((d + 1 : Nat) : Int) - 1 = (d : Int) := by omega
    have hd1 : ¬ (((d + 1 : Nat) : Int) = 0) := by omega
    generalize ((d + 1 : Nat) : Int) = D at hd hd1 R
    simp only [b_u_law_bent]
    rw [ap_sSq]
    cases et : isTup v with
    | false =>
      simp only [ap_sIf, ap_tBo, ap_tNt, ap_tTr, ap_xIsi, ap_xV, List.getElem?_cons_succ, List.getElem?_cons_zero, bd_some, pl.kd, ob_some, isi_tup, et, truth_bl, Bool.not_false, show (true == false) = false from rfl, ib_false, ib_true]
      exact R h q _
    | true =>
      cases v <;> first | cases et | skip
      rename_i l
      cases el : l.isEmpty with
      | true =>
        simp only [ap_sIf, ap_tBo, ap_tNt, ap_tTr, ap_xIsi, ap_xV, List.getElem?_cons_succ, List.getElem?_cons_zero, bd_some, kd_tup, isi_tuple_tuple, ob_some, truth_bl, Bool.not_true, show (false == false) = true from rfl, show (true == false) = false from rfl, ib_false, ib_true, ap_xCmp, ap_xTup, ap_aN, tupV_nil, cmp_eq, eqV_tup0, el]
        exact R h q _
      | false =>
        simp only [ap_sIf, ap_tBo, ap_tB1, ap_tNt, ap_tTr, ap_xIsi, ap_xV, List.getElem?_cons_succ, List.getElem?_cons_zero, bd_some, kd_tup, isi_tuple_tuple, ob_some, truth_bl, Bool.not_true, show (false == false) = true from rfl, show (true == false) = false from rfl, ib_false, ib_true, ap_xCmp, ap_xTup, ap_aN, tupV_nil, cmp_eq, eqV_tup0, el, ap_xC, eqV_int, hd1, decide_false, ap_xCall, ap_aC, bd_bd, nxt_bd, fin_bd, ob_bd]
        refine Ev.bd (tap_ok 4 hn q (by decide) (by decide)) ?_
        rintro z h1 ⟨q1, t, e, t0, t1⟩
        simp only at e q1
        subst e
        by_cases e0 : t = 0
        · simp only [ob_some, bd_some, eqV_int, e0, decide_true, truth_bl, show (true == false) = false from rfl, ib_false, ib_true]
          exact R h1 q1 _
        · have hl := wts_len (l := l)
          have gd := g.dp
          have gw := g.wt
          have go := g.ok
          simp only [dpt, wt, okV] at gd gw go
          obtain ⟨m, rfl⟩ : ∃ m', m = m' + 1 := ⟨m - 1, by omega⟩
          have lp : 0 < l.length := List.length_pos_iff.mpr (by intro e; subst e; cases el)
          simp [e0]
          refine Ev.bd (tap_ok l.length hn q1 (by omega) (by omega)) ?_
          rintro z h2 ⟨q2, i, e, i0, i1⟩
          simp only at e q2
          subst e
          obtain ⟨i, rfl⟩ := Int.eq_ofNat_of_zero_le i0
          have hi : i < l.length := by omega
          simp [ix_tup, hi, hd]
          have hm : l[i] ∈ l := List.getElem_mem hi
          have wm := wts_mem hm
          have gx : GV m (wt l[i]) l[i] := ⟨okVs_iff.mp go _ hm, dpts_le.mp (show dpts l ≤ m by omega) _ hm, Nat.le_refl _⟩
          refine Ev.bd (ih k h2 l[i] m (wt l[i]) (by omega) q2 gx) ?_
          rintro x h3 ⟨q3, gn⟩
          simp only at gn q3
          have lt : (l.take i).length = i := by rw [List.length_take]; omega
          rw [cut_to (by omega), show ((i : Int) + 1) = ((i + 1 : Nat) : Int) by omega, cut_from (by omega), op_addT' (by rw [sizeLine_eq, lt, List.length_singleton]; omega)]
          simp only [ob_some, bd_some]
          rw [op_addT' (by rw [sizeLine_eq, List.length_append, lt, List.length_singleton, List.length_drop]; omega)]
          simp only [ob_some, bd_some]
          rw [fin_rt' (by rw [q3.1, q.1])]
          have el : l = l.take i ++ (l[i] :: l.drop (i + 1)) := by
            rw [List.getElem_cons_drop, List.take_append_drop]
          have mt : ∀ y ∈ l.take i ++ [x] ++ l.drop (i + 1), y = x ∨ y ∈ l := fun y hy => by
            rcases List.mem_append.mp hy with hy | hy
            · rcases List.mem_append.mp hy with hy | hy
              · exact .inr (List.mem_of_mem_take hy)
              · exact .inl (List.mem_singleton.mp hy)
            · exact .inr (List.mem_of_mem_drop hy)
          refine ⟨_, rfl, q3, ?_, ?_, ?_⟩
          · simp only [okV]
            refine okVs_iff.mpr fun y hy => ?_
            rcases mt y hy with e | hy
            · exact e ▸ gn.ok
            · exact okVs_iff.mp go y hy
          · simp only [dpt]
            have : dpts (l.take i ++ [x] ++ l.drop (i + 1)) ≤ m + 3 := dpts_le.mpr fun y hy => by
              rcases mt y hy with e | hy
              · exact e ▸ gn.dp
              · have := dpts_le.mp (show dpts l ≤ m by omega) y hy
                omega
            omega
          · simp only [wt]
            have h1 := congrArg wts el
            rw [wts_app] at h1
            rw [wts_app, wts_app]
            have h2 := gn.wt
            simp only [wts] at h1 ⊢
            omega
end
end k05

set_option maxRecDepth 100000
namespace k05
open Lt PySem
def mxI (l : List Int) : Int := l.foldl (fun a b => if b > a then b else a) 0
theorem mx_ge : ∀ (l : List Int) (a : Int), a ≤ l.foldl (fun a b => if b > a then b else a) a
  | [], a => Int.le_refl _
  | x :: l, a => by
    rw [List.foldl_cons]
    refine Int.le_trans ?_ (mx_ge l _)
    split <;> omega
theorem mxI_nonneg {l : List Int} : 0 ≤ mxI l := mx_ge l 0
def cdp : Nat → PV → Int
  | 0, _ => 0
  | n + 1, v => if joined v = true then 1 + mxI ((items (arg 1 v)).map (cdp n)) else if hdv [110, 111, 116] 2 v = true then 1 + mxI [cdp n (arg 1 v)] else if hdv [97, 108, 108] 4 v = true then 1 + mxI [cdp n (arg 2 v), cdp n (arg 3 v)] else 1
/-- the form of a claim, a guard, a body -/
def fm : Nat → PV → Bool
  | 0, _ => false
  | n + 1, v => if joined v = true then decide ((items (arg 1 v)).length ≤ 4000) && (items (arg 1 v)).all (fm n) else if hdv [110, 111, 116] 2 v = true then fm n (arg 1 v) else if hdv [97, 108, 108] 4 v = true then fm n (arg 2 v) && fm n (arg 3 v)
    else hdv [112, 111, 115] 4 v || hdv [118, 97, 108] 4 v
theorem cdp_nonneg : ∀ (n : Nat) (v : PV), 0 ≤ cdp n v
  | 0, v => Int.le_refl _
  | n + 1, v => by
    rw [cdp]
    have h := fun l => mxI_nonneg (l := l)
    split
    · have := h ((items (arg 1 v)).map (cdp n)); omega
    · split
      · have := h [cdp n (arg 1 v)]; omega
      · split
        · have := h [cdp n (arg 2 v), cdp n (arg 3 v)]; omega
        · omega
theorem joined_word {v : PV} (e : joined v = true) : ∃ w ps, v = .tup [.str w, .tup ps] ∧ (w = [97, 110, 100] ∨ w = [111, 114]) := by
  obtain ⟨w, ps, rfl⟩ := joined_eq e
  refine ⟨w, ps, rfl, ?_⟩
  unfold joined hdv at e
  simp [isTup, items, arg, isStr, strOf] at e
  exact e
section
variable {k L n : Nat} {h : PH} {S : Sd} {own : List Tx}
theorem law_deep_ok : ∀ (n : Nat) (v : PV) (k : Nat) (h : PH), fm n v = true → callS T (k + n) n_u_law_deep [v] h = some (.int (cdp n v), h)
  | 0, v, k, h, e => by cases e
  | n + 1, v, k, h, e => by
    have ih := law_deep_ok n
    rw [show k + (n + 1) = (k + n) + 1 by omega, c_u_law_deep]
    have pv : ∀ x : Tx, anyEq (.str x) [.str [112, 111, 115], .str [118, 97, 108]] = some (decide (x ∈ ([[112, 111, 115], [118, 97, 108]] : List Tx))) := fun x => anyEq_strs _ rfl
    have lc : ∀ (ps : List PV) (s : Sl), s.length = 3 → (∀ x ∈ ps, fm n x = true) → lcL (.name 2) tYe (xCall (callS T (k + n) n_u_law_deep) (aC (xV 2) aN)) s ps h = some (ps.map fun x => .int (cdp n x), h) := fun ps s z hp =>
      lcL_map _ _ fun x hx => ⟨s.set 2 (some x), rfl, by simp [z, ih x k h (hp x hx)]⟩
    have mx : ∀ (ps : List PV), biV .max [.lst (.int 0 :: ps.map fun x => .int (cdp n x))] h = some (.int (mxI (ps.map (cdp n))), h) := fun ps => by
      show (intsV (.int 0 :: ps.map fun x => .int (cdp n x))).bind _ = _
      have : (.int 0 :: ps.map fun x => PV.int (cdp n x)) = (0 :: ps.map (cdp n)).map PV.int := by rw [List.map_cons, List.map_map]; rfl
      rw [this, intsV_map]
      rfl
    rw [fm] at e
    rw [cdp]
    cases ej : joined v with
    | true =>
      rw [ej, if_pos rfl] at e
      obtain ⟨w, ps, rfl, hw⟩ := joined_word ej
      have e : (decide (ps.length ≤ 4000) && ps.all (fm n)) = true := e
      rw [Bool.and_eq_true, decide_eq_true_eq] at e
      have hp := List.all_eq_true.mp e.2
      have nm1 : ¬ w = [112, 111, 115] := by rcases hw with e | e <;> subst e <;> decide
      have nm2 : ¬ w = [118, 97, 108] := by rcases hw with e | e <;> subst e <;> decide
      have n1 : ¬ w = [110, 111, 116] := by rcases hw with e | e <;> subst e <;> decide
      have n2 : ¬ w = [97, 108, 108] := by rcases hw with e | e <;> subst e <;> decide
      have l1 := lc ps [some (.tup [.str w, .tup ps]), some (.lst ps), none] rfl hp
      simp [b_u_law_deep, pv, nm1, nm2, n1, n2, l1, op_addL, show 1 + ps.length ≤ 4096 by omega, show ps.length + 1 ≤ 4096 by omega, mx, fin_rt, items, arg]
    | false =>
      rw [ej, if_neg (by simp)] at e
      cases en : hdv [110, 111, 116] 2 v with
      | true =>
        rw [en, if_pos rfl] at e
        obtain ⟨a, rfl⟩ := hdv_two en
        have l1 := lc [a] [some (.tup [.str [110, 111, 116], a]), some (.lst [a]), none] rfl (by simpa [arg, items] using e)
        have m1 := mx [a]
        simp only [List.map_cons, List.map_nil] at l1 m1
        simp [b_u_law_deep, pv, l1, op_addL, m1, fin_rt, items, arg]
      | false =>
        rw [en, if_neg (by simp)] at e
        cases ea : hdv [97, 108, 108] 4 v with
        | true =>
          rw [ea, if_pos rfl] at e
          obtain ⟨a, b, c, rfl⟩ := hdv_four ea
          have e : (fm n b && fm n c) = true := e
          rw [Bool.and_eq_true] at e
          have cu : cutL [.str [97, 108, 108], a, b, c] (some 2) none = [b, c] := cut_from (n := 2) (by simp)
          have l1 := lc [b, c] [some (.tup [.str [97, 108, 108], a, b, c]), some (.lst [b, c]), none] rfl (by simp [e.1, e.2])
          have m1 := mx [b, c]
          simp only [List.map_cons, List.map_nil] at l1 m1
          simp [b_u_law_deep, pv, cu, l1, op_addL, m1, fin_rt, items, arg]
        | false =>
          rw [ea, if_neg (by simp), Bool.or_eq_true] at e
          rcases e with e | e <;> obtain ⟨a, b, c, rfl⟩ := hdv_four e <;> simp [b_u_law_deep, pv, fin_rt]
theorem maxDV_eq (l : List Int) (h : ∀ x ∈ l, 0 ≤ x) : maxDV 0 l = mxI l := by
  cases l with
  | nil => rfl
  | cons x l =>
    show l.foldl _ x = (x :: l).foldl _ 0
    rw [List.foldl_cons]
    congr 1
    have := h x List.mem_cons_self
    split <;> omega
theorem depth_of_ok : ∀ (n : Nat) (v : PV) (k : Nat) (h : PH), fm n v = true → callS T (k + n + 1) n_depth_of [v] h = some (.int (cdp n v), h)
  | 0, v, k, h, e => by cases e
  | n + 1, v, k, h, e => by
    have ih := depth_of_ok n
    rw [show k + (n + 1) + 1 = (k + n + 1) + 1 by omega, c_depth_of]
    have lc : ∀ (ps : List PV) (s : Sl), s.length = 2 → (∀ x ∈ ps, fm n x = true) → lcL (.name 1) tYe (xCall (callS T (k + n + 1) n_depth_of) (aC (xV 1) aN)) s ps h = some (ps.map fun x => .int (cdp n x), h) := fun ps s z hp =>
      lcL_map _ _ fun x hx => ⟨s.set 1 (some x), rfl, by simp [z, ih x k h (hp x hx)]⟩
    have mx : ∀ (ps : List PV) (s : Sl), s.length = 2 → (∀ x ∈ ps, fm n x = true) → callS T (k + n + 1) n_claim_parts [v] h = some (.lst ps, h) → s = [some v, none] →
        xMaxD (lcV false (.name 1) (iSq (xCall (callS T (k + n + 1) n_claim_parts) (aC (xV 0) aN))) tYe (xCall (callS T (k + n + 1) n_depth_of) (aC (xV 1) aN))) (xC (.int 0)) s h = some (.int (mxI (ps.map (cdp n))), h) := fun ps s z hp hc es => by
      subst es
      have e2 : (ps.map fun x => PV.int (cdp n x)) = (ps.map (cdp n)).map PV.int := by rw [List.map_map]; rfl
      unfold xMaxD
      simp only [ap_lcV, ap_iSq, ap_xCall, ap_aC, ap_aN, ap_xV, List.getElem?_cons_zero, bd_some, hc, it_lst, ob_some, lc ps [some v, none] rfl hp, newL_f, ap_xC, e2, intsV_map]
      rw [maxDV_eq]
      intro x hx
      obtain ⟨y, _, rfl⟩ := List.mem_map.mp hx
      exact cdp_nonneg n y
    have dn : ∀ ps : List PV, (∀ x ∈ ps, fm n x = true) → callS T (k + n + 1) n_claim_parts [v] h = some (.lst ps, h) → fin true (List.length h) (b_depth_of (callS T (k + n + 1)) [some v, none] h) = some (.int (1 + mxI (ps.map (cdp n))), h) := fun ps hp hc => by
      simp only [b_depth_of]
      rw [ap_sRt, ap_xOp]
      simp only [ap_xC, bd_some, mx ps _ rfl hp hc rfl, op_add, ob_some]
      exact fin_rt
    rw [fm] at e
    rw [cdp]
    have cp : callS T (k + n + 1) n_claim_parts [v] h = fin true (List.length h) (b_claim_parts (callS T (k + n)) [some v, none, none, none, none, none, none, none] h) := c_claim_parts
    cases ej : joined v with
    | true =>
      rw [ej, if_pos rfl] at e
      obtain ⟨w, ps, rfl, hw⟩ := joined_word ej
      have e : (decide (ps.length ≤ 4000) && ps.all (fm n)) = true := e
      rw [Bool.and_eq_true, decide_eq_true_eq] at e
      have hp := List.all_eq_true.mp e.2
      have n1 : ¬ w = [110, 111, 116] := by rcases hw with e | e <;> subst e <;> decide
      rw [dn ps hp (by
        rw [cp]
        simp [b_claim_parts, mCase, pSeq, pEach, pLit, n1, pWild, bindB, fin_rt])]
      rfl
    | false =>
      rw [ej, if_neg (by simp)] at e
      cases en : hdv [110, 111, 116] 2 v with
      | true =>
        rw [en, if_pos rfl] at e
        obtain ⟨a, rfl⟩ := hdv_two en
        rw [dn [a] (by simpa [arg, items] using e) (by
          rw [cp]
          simp [b_claim_parts, mCase, pSeq, pEach, pLit, pCap, bindB, fin_rt])]
        rfl
      | false =>
        rw [en, if_neg (by simp)] at e
        cases ea : hdv [97, 108, 108] 4 v with
        | true =>
          rw [ea, if_pos rfl] at e
          obtain ⟨a, b, c, rfl⟩ := hdv_four ea
          have e : (fm n b && fm n c) = true := e
          rw [Bool.and_eq_true] at e
          rw [dn [b, c] (by simp [e.1, e.2]) (by
            rw [cp]
            simp [b_claim_parts, mCase, pSeq, pEach, pLit, pCap, bindB, fin_rt])]
          rfl
        | false =>
          rw [ea, if_neg (by simp), Bool.or_eq_true] at e
          rcases e with e | e <;> obtain ⟨a, b, c, rfl⟩ := hdv_four e <;> rw [dn [] (by simp) (by
            rw [cp]
            simp [b_claim_parts, mCase, pSeq, pEach, pLit, pCap, pOrs, bindB, fin_rt])] <;> rfl
end
end k05

set_option maxRecDepth 100000
namespace k05
open Lt PySem
section
variable {k L n : Nat} {h : PH} {S : Sd} {own : List Tx}
/-- a claim of just a depth -/
structure Lim (S : Sd) (n : Nat) (v : PV) : Prop where
  c : clm S n v = true
  f : fm n v = true
  d : cdp n v = n
  p : Pln v
theorem atom_fm {m : Nat} {v : PV} (e : atomC S v = true) : fm (m + 1) v = true ∧ cdp (m + 1) v = 1 := by
  obtain ⟨x, a, b, c, rfl, hx⟩ := atomC_form e
  have j : ¬ joined (.tup [.str x, a, b, c]) = true := by rw [joined_four]; simp
  have n2 : ¬ hdv [110, 111, 116] 2 (.tup [.str x, a, b, c]) = true := by rw [hdv_24]; simp
  have n4 : ¬ hdv [97, 108, 108] 4 (.tup [.str x, a, b, c]) = true := by rw [hdv_4 (by rcases hx with e | e <;> subst e <;> decide)]; simp
  rw [fm, cdp, if_neg j, if_neg j, if_neg n2, if_neg n2, if_neg n4, if_neg n4]
  refine ⟨?_, rfl⟩
  rcases hx with e | e <;> subst e <;> rw [hdv_mk4] <;> simp
theorem lim_atom {m : Nat} {v : PV} (e : atomC S v = true) (p : Pln v) : clm S (m + 1) v = true ∧ fm (m + 1) v = true ∧ cdp (m + 1) v = 1 := ⟨clm_of_atom e, atom_fm e⟩
theorem pln_str {x : Tx} : Pln (.str x) := ⟨_, rfl⟩
theorem pln2 {a b : PV} (pa : Pln a) (pb : Pln b) : Pln (.tup [a, b]) := pln_tup fun x hx => by
  rcases List.mem_cons.mp hx with e | hx
  · exact e ▸ pa
  · rcases List.mem_cons.mp hx with e | hx
    · exact e ▸ pb
    · cases hx
theorem pln1 {a : PV} (pa : Pln a) : Pln (.tup [a]) := pln_tup fun x hx => by
  rcases List.mem_cons.mp hx with e | hx
  · exact e ▸ pa
  · cases hx
theorem fm_not {m : Nat} {a : PV} : fm (m + 1) (.tup [.str [110, 111, 116], a]) = fm m a := by
  rw [fm, if_neg (by rw [joined_not]; simp), if_pos hdv_mk2]
  rfl
theorem fm_join {m : Nat} {w : Tx} {ps : List PV} (e : w = [97, 110, 100] ∨ w = [111, 114]) : fm (m + 1) (.tup [.str w, .tup ps]) = (decide (ps.length ≤ 4000) && ps.all (fm m)) := by
  rw [fm, if_pos (joined_mk e)]
  rfl
theorem cdp_not {m : Nat} {a : PV} : cdp (m + 1) (.tup [.str [110, 111, 116], a]) = 1 + mxI [cdp m a] := by
  rw [cdp, if_neg (by rw [joined_not]; simp), if_pos hdv_mk2]
  rfl
theorem cdp_join {m : Nat} {w : Tx} {ps : List PV} (e : w = [97, 110, 100] ∨ w = [111, 114]) : cdp (m + 1) (.tup [.str w, .tup ps]) = 1 + mxI (ps.map (cdp m)) := by
  rw [cdp, if_pos (joined_mk e)]
  rfl
theorem lim_not {m : Nat} {v : PV} (l : Lim S (m + 1) v) : Lim S (m + 2) (.tup [.str [110, 111, 116], v]) := by
  refine ⟨by rw [clm_not]; exact l.c, by rw [fm_not]; exact l.f, ?_, pln2 pln_str l.p⟩
  rw [cdp_not, l.d]
  simp [mxI]
  omega
theorem lim_join {m : Nat} {w : Tx} {ps : List PV} (e : w = [97, 110, 100] ∨ w = [111, 114]) (z : ps.length ≤ 4000) (hc : ∀ p ∈ ps, clm S (m + 1) p = true ∧ fm (m + 1) p = true ∧ Pln p) (hd : mxI (ps.map (cdp (m + 1))) = (m + 1 : Nat)) : Lim S (m + 2) (.tup [.str w, .tup ps]) := by
  refine ⟨?_, ?_, ?_, pln2 pln_str (pln_tup fun p hp => (hc p hp).2.2)⟩
  · rw [clm_join e]
    exact List.all_eq_true.mpr fun p hp => (hc p hp).1
  · rw [fm_join e]
    simp only [Bool.and_eq_true, decide_eq_true_eq]
    exact ⟨z, List.all_eq_true.mpr fun p hp => (hc p hp).2.1⟩
  · rw [cdp_join e, hd]
    omega
/-- a body of just a depth -/
structure LimB (S : Sd) (own : List Tx) (n : Nat) (v : PV) : Prop where
  c : bod S own n v = true
  f : fm n v = true
  d : cdp n v = n
  p : Pln v
theorem limB_not {m : Nat} {v : PV} (l : LimB S own (m + 1) v) : LimB S own (m + 2) (.tup [.str [110, 111, 116], v]) := by
  refine ⟨by rw [bod_not]; exact l.c, by rw [fm_not]; exact l.f, ?_, pln2 pln_str l.p⟩
  rw [cdp_not, l.d]
  simp [mxI]
  omega
theorem limB_join {m : Nat} {w : Tx} {ps : List PV} (e : w = [97, 110, 100] ∨ w = [111, 114]) (z : ps.length ≤ 4000) (hc : ∀ p ∈ ps, bod S own (m + 1) p = true ∧ fm (m + 1) p = true ∧ Pln p) (hd : mxI (ps.map (cdp (m + 1))) = (m + 1 : Nat)) : LimB S own (m + 2) (.tup [.str w, .tup ps]) := by
  refine ⟨?_, ?_, ?_, pln2 pln_str (pln_tup fun p hp => (hc p hp).2.2)⟩
  · rw [bod_join e]
    exact List.all_eq_true.mpr fun p hp => (hc p hp).1
  · rw [fm_join e]
    simp only [Bool.and_eq_true, decide_eq_true_eq]
    exact ⟨z, List.all_eq_true.mpr fun p hp => (hc p hp).2.1⟩
  · rw [cdp_join e, hd]
    omega
theorem claim_depth_ok (o : S.Ok) {v : PV} (l : Lim S 12 v) : callS T (k + 25) n_claim_depth [S.fr, v] h = some (.int 12, h) := by
  rw [show k + 25 = (k + 24) + 1 by omega, c_claim_depth]
  have r1 : callS T (k + 23) n_require_claim [S.fr, v] h = some (.non, h) := by
    rw [show k + 23 = (k + 22) + 1 by omega, c_require_claim]
    simp [b_require_claim, is_claim_for_ok o l.p, l.c, fin_nx]
  have r2 : callS T (k + 23) n_require_frame [S.fr] h = some (.non, h) := require_frame_ok
  have rb : callS T (k + 24) n_require_both [S.fr, v] h = some (.non, h) := by
    rw [show k + 24 = (k + 23) + 1 by omega, c_require_both]
    simp [b_require_both, r1, r2, fin_nx]
  have dd := depth_of_ok 12 v (k + 11) h l.f
  rw [show k + 11 + 12 + 1 = k + 24 by omega, l.d] at dd
  simp [b_claim_depth, rb, dd, fin_rt]
theorem eq3 : eqV (.lst [.int 12, .bl true, .int 12]) (.lst [.int 12, .bl true, .int 12]) = some true := by decide +kernel
theorem eq2 : eqV (.lst [.bl true, .int 12]) (.lst [.bl true, .int 12]) = some true := by decide +kernel
theorem mx_two {a b : Int} (ha : 0 ≤ a) : mxI [a, b] = if b > a then b else a := by
  show (if b > (if a > 0 then a else 0) then b else (if a > 0 then a else 0)) = _
  have : (if a > 0 then a else 0) = a := by split <;> omega
  rw [this]
theorem mx_one {a : Int} (ha : 0 ≤ a) : mxI [a] = a := by
  show (if a > 0 then a else 0) = a
  split <;> omega
theorem limits_ok (sd : S.Drawn) (hn : n < L) (q : Hq L h) : Ev (callS T (k + 30) n_u_law_limits_right [.ref n, S.v, S.fr] h) fun r => Hq L r.2 ∧ r.1 = .bl true := by
  have c1 : ∀ h, Hq L h → Ev (callS T (k + 29) n_u_law_claim [.ref n, S.v, .int 1] h) fun r => Hq L r.2 ∧ ClmV S 1 r.1 := fun h q => claim_ok sd hn 0 (k + 21) h q
  have oo := sd.toOk
  have r11 : ∀ h, rng1V (.int 11) h = some (rngL 0 11, h) := fun h => rng1V_ok (by decide) (by decide)
  have r10 : ∀ h, rng1V (.int 10) h = some (rngL 0 10, h) := fun h => rng1V_ok (by decide) (by decide)
  rw [show k + 30 = (k + 29) + 1 by omega, c_u_law_limits_right]
  simp [b_u_law_limits_right]
  refine Ev.bd (c1 h q) ?_
  rintro v h1 ⟨q1, gv⟩
  simp only at q1 gv
  rw [r11]
  simp only [bd_some]
  refine Ev.fnR (fun i s h => Hq L h ∧ ∃ v x4 x7, Lim S (i + 1) v ∧ s = [some (.ref n), some S.v, some S.fr, some v, x4, none, none, x7]) ⟨q1, v, none, none, ?_, rfl⟩ ?_ ?_
  · have la := lim_atom (S := S) (m := 0) (gv.a rfl) gv.g.dp'.pln
    exact ⟨la.1, la.2.1, la.2.2, gv.g.dp'.pln⟩
  · rintro i s h2 hi ⟨q2, v, x4, x7, lv, rfl⟩
    simp
    refine Ev.bd (c1 h2 q2) ?_
    rintro m h3 ⟨q3, gm⟩
    simp only at q3 gm
    have am := gm.a rfl
    have pm := gm.g.dp'.pln
    have la := lim_atom (S := S) (m := i) am pm
    refine Ev.bd (choice_ok (xs := [.tup [.str [110, 111, 116], v], .tup [.str [97, 110, 100], .tup [m, v]], .tup [.str [111, 114], .tup [v]], .tup [.str [97, 110, 100], .tup [v, m]]]) hn q3 (by simp) (by simp)) ?_
    rintro w h4 ⟨q4, hw⟩
    simp only at q4 hw
    simp only [Ev_some]
    refine ⟨q4, w, ?_, some (.int i), some m, rfl⟩
    have lc := lv.c
    have lf := lv.f
    have ld := lv.d
    rcases List.mem_cons.mp hw with e | hw
    · exact e ▸ lim_not lv
    · rcases List.mem_cons.mp hw with e | hw
      · rw [e]
        refine lim_join (.inl rfl) (by simp) (fun p hp => ?_) ?_
        · rcases List.mem_cons.mp hp with e | hp
          · exact e ▸ ⟨la.1, la.2.1, pm⟩
          · rw [List.mem_singleton.mp hp]
            exact ⟨lc, lf, lv.p⟩
        · simp only [List.map_cons, List.map_nil, la.2.2, ld]
          rw [mx_two (by decide)]
          split <;> omega
      · rcases List.mem_cons.mp hw with e | hw
        · rw [e]
          refine lim_join (.inr rfl) (by simp) (fun p hp => ?_) ?_
          · rw [List.mem_singleton.mp hp]
            exact ⟨lc, lf, lv.p⟩
          · simp only [List.map_cons, List.map_nil, ld]
            rw [mx_one (by omega)]
        · rw [List.mem_singleton.mp hw]
          refine lim_join (.inl rfl) (by simp) (fun p hp => ?_) ?_
          · rcases List.mem_cons.mp hp with e | hp
            · exact e ▸ ⟨lc, lf, lv.p⟩
            · rw [List.mem_singleton.mp hp]
              exact ⟨la.1, la.2.1, pm⟩
          · simp only [List.map_cons, List.map_nil, la.2.2, ld]
            rw [mx_two (by omega)]
            split <;> omega
  · rintro s h2 ⟨q2, v, x4, x7, lv, rfl⟩
    have d1 := law_deep_ok 12 v (k + 17) h2 lv.f
    rw [show k + 17 + 12 = k + 29 by omega, show cdp 12 v = 12 from lv.d] at d1
    have d2 := is_claim_ok (k := k + 6) (h := h2) oo lv.p
    have d3 := claim_depth_ok (k := k + 4) (h := h2) oo lv
    rw [lv.c] at d2
    simp [d1, d2, d3, eq3]
    rw [r10]
    simp only [bd_some]
    have a0 : atomB S [[111, 119, 110]] (.tup [.str [118, 97, 108], .str [60, 61], .tup [.str [], .int 0], .tup [.str [], .int 1]]) = true := by
      simp [atomB, hdv, arg, items, isTup, isStr, strOf, opOk, ops3, bterm, wrd, isWhole]
    refine Ev.fnR (fun i s h => Hq L h ∧ ∃ v4 v x7, LimB S [[111, 119, 110]] (i + 1) v ∧ ∃ v3, s = [some (.ref n), some S.v, some S.fr, v3, v4, some v, none, x7]) ⟨q2, x4, _, x7, ?_, _, rfl⟩ ?_ ?_
    · refine ⟨by rw [bod_four]; exact a0, ?_, ?_, ?_⟩
      · rfl
      · rfl
      · exact ⟨_, rfl⟩
    · rintro i s h3 hi ⟨q3, v4, v, x7, lv, v3, rfl⟩
      simp
      refine Ev.bd (choice_ok (xs := [.tup [.str [110, 111, 116], v], .tup [.str [97, 110, 100], .tup [v]], .tup [.str [111, 114], .tup [v, v]]]) hn q3 (by simp) (by simp)) ?_
      rintro w h4 ⟨q4, hw⟩
      simp only at q4 hw
      simp only [Ev_some]
      refine ⟨q4, some (.int i), w, ?_, x7, _, rfl⟩
      have lc := lv.c
      have lf := lv.f
      have ld := lv.d
      rcases List.mem_cons.mp hw with e | hw
      · exact e ▸ limB_not lv
      · rcases List.mem_cons.mp hw with e | hw
        · rw [e]
          refine limB_join (.inl rfl) (by simp) (fun p hp => ?_) ?_
          · rw [List.mem_singleton.mp hp]
            exact ⟨lc, lf, lv.p⟩
          · simp only [List.map_cons, List.map_nil, ld]
            rw [mx_one (by omega)]
        · rw [List.mem_singleton.mp hw]
          refine limB_join (.inr rfl) (by simp) (fun p hp => ?_) ?_
          · rcases List.mem_cons.mp hp with e | hp
            · exact e ▸ ⟨lc, lf, lv.p⟩
            · rw [List.mem_singleton.mp hp]
              exact ⟨lc, lf, lv.p⟩
          · simp only [List.map_cons, List.map_nil, ld]
            rw [mx_two (by omega)]
            split <;> omega
    · rintro s h3 ⟨q3, v4, v, x7, lv, v3, rfl⟩
      have ow : ownOk S (.tup [.str [111, 119, 110]]) = true := by
        have : ¬ [111, 119, 110] ∈ S.all := fun e => by
          have := sd.w _ e
          revert this
          decide
        have nm : nameT [111, 119, 110] = true := by decide
        unfold ownOk
        simp [isTup, items, oneTwo, fresh1, isName, nm, strOf, this, allT, dist, nubS]
      have lw : Lim S 12 (.tup [.str [97, 108, 108], .tup [.str [111, 119, 110]], .tup [.str [97, 110, 100], .tup []], v]) := by
        refine ⟨?_, ?_, ?_, ?_⟩
        · rw [clm_all, ow, grd_join (.inl rfl)]
          show (true && (true && bod S [[111, 119, 110]] 11 v)) = true
          rw [lv.c]
          rfl
        · rw [fm, if_neg (by rw [joined_four]; simp), if_neg (by rw [hdv_24]; simp), if_pos hdv_mk4]
          show (fm 11 (.tup [.str [97, 110, 100], .tup []]) && fm 11 v) = true
          rw [lv.f]
          rfl
        · rw [cdp, if_neg (by rw [joined_four]; simp), if_neg (by rw [hdv_24]; simp), if_pos hdv_mk4]
          show 1 + mxI [cdp 11 (.tup [.str [97, 110, 100], .tup []]), cdp 11 v] = _
          rw [lv.d]
          rfl
        · exact pln_tup fun x hx => by
            rcases List.mem_cons.mp hx with e | hx
            · exact e ▸ pln_str
            · rcases List.mem_cons.mp hx with e | hx
              · exact e ▸ pln1 pln_str
              · rcases List.mem_cons.mp hx with e | hx
                · exact e ▸ pln2 pln_str (pln_tup (by simp))
                · rw [List.mem_singleton.mp hx]
                  exact lv.p
      have d2 := is_claim_ok (k := k + 6) (h := h3) oo lw.p
      have d3 := claim_depth_ok (k := k + 4) (h := h3) oo lw
      rw [lw.c] at d2
      simp [d2, d3, eq2]
      rw [fin_rt' (by rw [q3.1, q.1])]
      exact ⟨_, rfl, q3, rfl⟩
end
end k05

set_option maxRecDepth 100000
namespace k05
open Lt PySem
section
variable {k L n : Nat} {h : PH} {S : Sd} {own : List Tx}
theorem law_data (ns : List Int) (hl : ns.length ≤ 63) : ∃ h, callS T 112 0 [.scr ns] [] = some (.bl true, h) := by
  suffices H : Ev (callS T (111 + 1) n_law [.scr ns] []) fun r => r.1 = .bl true by
    obtain ⟨⟨v, h⟩, e, e2⟩ := H
    simp only at e2
    subst e2
    exact ⟨h, e⟩
  rw [c_law]
  have em : ∃ m : Nat, m ≤ 5 ∧ (if (1 : Int) < if (ns.length : Int) < 5 then (ns.length : Int) else 5 then if (ns.length : Int) < 5 then (ns.length : Int) else 5 else 1) = m := by
    refine ⟨(if (1 : Int) < if (ns.length : Int) < 5 then (ns.length : Int) else 5 then if (ns.length : Int) < 5 then (ns.length : Int) else 5 else 1).toNat, ?_, ?_⟩ <;> split <;> split <;> omega
  obtain ⟨m, m5, em⟩ := em
  simp [b_law]
  rw [em, rng1V_ok (by omega) (by omega)]
  simp only [bd_some, Int.toNat_natCast]
  refine Ev.fnR (fun i s h => Hq i h ∧ ∃ x1 x2 x3 x4 x5 x6 x7 x8 x9, s = [some (.scr ns), x1, x2, x3, x4, x5, x6, x7, x8, x9]) ⟨⟨rfl, fun o ho => by cases ho⟩, _, _, _, _, _, _, _, _, _, rfl⟩ ?_ ?_
  · rintro i s h hi ⟨q, x1, x2, x3, x4, x5, x6, x7, x8, x9, rfl⟩
    simp
    refine Ev.bd (keg_ok i (by omega) q) ?_
    rintro v h1 ⟨q1, e⟩
    simp only at q1 e
    subst e
    have hn : i < i + 1 := by omega
    refine Ev.bd (sides_ok hn q1) ?_
    rintro v h2 ⟨q2, S, e, sd⟩
    simp only at q2 e
    subst e
    have oo := sd.toOk
    simp [init_ok oo q2]
    refine Ev.bd (own_names_ok hn q2 sd) ?_
    rintro v h3 ⟨q3, own, e, ow⟩
    simp only at q3 e
    subst e
    have po : Pln (.tup (own.map .str)) := pln_tup fun x hx => by
      obtain ⟨y, _, rfl⟩ := List.mem_map.mp hx
      exact pln_str
    refine Ev.bd (claim_ok sd hn 2 101 h3 q3) ?_
    rintro a h4 ⟨q4, ga⟩
    refine Ev.bd (guard_ok sd ow.f ow.ne hn 2 103 h4 q4) ?_
    rintro b h5 ⟨q5, gb⟩
    refine Ev.bd (body_ok sd ow.f hn 2 102 h5 q5) ?_
    rintro c h6 ⟨q6, gc⟩
    simp only at q4 q5 q6 ga gb gc
    refine Ev.bd (claim_ok sd hn 2 101 h6 q6) ?_
    rintro d h7 ⟨q7, gd⟩
    simp only at q7 gd
    simp [op_addL]
    refine Ev.nL (fun xs s h => Hq (i + 1) h ∧ (∀ x ∈ xs, GV 6 1000000 x) ∧ ∃ x4 x5 x8 x9, s = [some (.scr ns), some (.int i), some (.ref i), some S.v, x4, x5, some S.fr, some (.tup (own.map .str)), x8, x9]) ⟨q7, ?_, _, _, _, _, rfl⟩ ?_ ?_
    · intro x hx
      have w3 : wB 3 ≤ 1000000 := by decide
      rcases List.mem_cons.mp hx with e | hx
      · exact e ▸ ga.g.mono (by decide) w3
      · rcases List.mem_cons.mp hx with e | hx
        · exact e ▸ gb.g.mono (by decide) w3
        · rcases List.mem_cons.mp hx with e | hx
          · exact e ▸ gc.g.mono (by decide) w3
          · rw [List.mem_singleton.mp hx]
            exact gd.g.mono (by decide) w3
    · rintro x r s h8 hx ⟨q8, gx, y4, y5, y8, y9, rfl⟩
      refine ⟨_, rfl, ?_⟩
      have gv := gx x List.mem_cons_self
      have j1 := all_judged_ok (k := 1) (h := h8) oo ow.ok po ow.le (gv.mono (by decide) (by decide))
      simp [j1]
      have r7 : ∀ h, rng1V (.int 7) h = some (rngL 0 7, h) := fun h => rng1V_ok (by decide) (by decide)
      simp only [r7, bd_some]
      refine (forR_inv 7 (fun _ s h => Hq (i + 1) h ∧ ∃ x4 x8 x9, s = [some (.scr ns), some (.int i), some (.ref i), some S.v, x4, some x, some S.fr, some (.tup (own.map .str)), x8, x9]) (fun _ _ => False) ⟨q8, _, _, _, rfl⟩ ?_).imp ?_
      · rintro t s h9 ht ⟨q9, z4, z8, z9, rfl⟩
        simp
        refine Ev.bd (bent_ok sd hn 6 101 h9 x 6 1000000 (by decide) q9 gv) ?_
        rintro y h10 ⟨q10, gy⟩
        simp only at q10 gy
        have py := gy.dp'.pln
        have jd : ∀ (y : PV) (h : PH), Hq (i + 1) h → GV 12 2000000 y → callS T 111 n_u_law_all_judged [S.v, S.fr, .tup (own.map .str), y] h = some (.bl true, h) := fun y h _ g => all_judged_ok (k := 1) (h := h) oo ow.ok po ow.le (g.mono (by decide) (by decide))
        simp [py.kd]
        by_cases e4 : (4 : Int) < (t : Int)
        · cases et : isTup y with
          | false =>
            simp [e4, et, jd y h10 q10 (gy.mono (by decide) (by decide)), q10]
          | true =>
            simp [e4, et]
            refine Ev.bd (bent_ok sd hn 3 104 h10 y 9 1001010 (by decide) q10 gy) ?_
            rintro z h11 ⟨q11, gz⟩
            simp only at q11 gz
            simp [jd z h11 q11 (gz.mono (by decide) (by decide)), q11]
        · simp [e4, jd y h10 q10 (gy.mono (by decide) (by decide)), q10]
      · intro o p
        cases o with
        | nx s h =>
          obtain ⟨q', z4, z8, z9, rfl⟩ := p
          exact ⟨q', fun x hx => gx x (List.mem_cons_of_mem _ hx), _, _, _, _, rfl⟩
        | rt v h => exact p.elim
        | bk s h => exact p.elim
        | ct s h => exact p.elim
    · rintro s h8 ⟨q8, _, y4, y5, y8, y9, rfl⟩
      simp
      refine Ev.bd (limits_ok (k := 81) sd hn q8) ?_
      rintro v h9 ⟨q9, e⟩
      simp only at q9 e
      subst e
      simp
      exact q9
  · rintro s h ⟨q, x1, x2, x3, x4, x5, x6, x7, x8, x9, rfl⟩
    simp
    refine ⟨(.bl true, (gc true 0 (.bl true) h).2), ?_, rfl⟩
    show some (gc true 0 (.bl true) h) = _
    have : (gc true 0 (.bl true) h).1 = .bl true := by
      unfold gc
      split
      · rfl
      · split
        · rfl
        · rfl
    exact congrArg some (Prod.ext this rfl)
end
end k05

set_option maxRecDepth 100000
namespace Lt
open PySem PySem.Spec L2
open He (eqO eqO_ok ba)
theorem sclsB_ok {K : PySem.W.Frag} {C : Addr} (h : sclsB K C = true) : SlX.SCls K C := by
  obtain ⟨h1, h⟩ := ba h
  obtain ⟨h2, h⟩ := ba h
  obtain ⟨h3, h4⟩ := ba h
  exact ⟨h1, h2, h3, eqO_ok h4⟩
theorem slotB_ok {K : PySem.W.Frag} {C : Addr} {f : Str} {i : Nat} (h : slotB K C f i = true) : SlX.Slot1 K C f (He.ma K C f) i := by
  unfold slotB at h
  obtain ⟨h1, h⟩ := ba h
  obtain ⟨h2, h⟩ := ba h
  obtain ⟨h3, h⟩ := ba h
  obtain ⟨h4, h⟩ := ba h
  obtain ⟨h5, h6⟩ := ba h
  exact ⟨eqO_ok h1, eqO_ok h2, of_decide_eq_true h3, of_decide_eq_true h4, of_decide_eq_true h5, of_decide_eq_true h6⟩
theorem sisiB_ok {K : PySem.W.Frag} {C : Addr} (h : sisiB K C = true) : SlX.SIsi K C := by
  obtain ⟨h1, h⟩ := ba h
  obtain ⟨h2, h⟩ := ba h
  obtain ⟨h3, h4⟩ := ba h
  exact ⟨eqO_ok h1, eqO_ok h2, of_decide_eq_true h3, of_decide_eq_true h4⟩
theorem ownB_ok {K : PySem.W.Frag} {C : Addr} {m : Str} (h : ownB K C m = true) : PySem.W.findIn K (.ref C) m = some (some (.ref (He.ma K C m))) ∧ PySem.W.isFn K (.ref (He.ma K C m)) = true := by
  obtain ⟨h1, h2⟩ := ba h
  exact ⟨eqO_ok h1, h2⟩
theorem tupAt_ok {K : PySem.W.Frag} {a : Addr} {vs : List He.Dv} (h : tupAt K a vs = true) : KT K a (vs.map (He.Dv.v K)) := by
  unfold tupAt at h
  cases q : K.lookup a with
  | none =>
    rw [q] at h
    cases h
  | some o =>
    obtain ⟨oc, od, dt, osl⟩ := o
    rw [q] at h
    cases oc with
    | type c => cases dt with
      | seq its n =>
        obtain ⟨h1, h2⟩ := ba h
        obtain ⟨h3, h4⟩ := ba h2
        exact ⟨_, its, n, q, congrArg Value.type (of_decide_eq_true h1), rfl, of_decide_eq_true h3, He.relAll_ok h4⟩
      | _ => cases h
    | _ => cases dt <;> cases h
theorem rv_str {K : PySem.W.Frag} {ca : CA} {φ : Pl} {H : Hp} {t : Tx} (z : t.length ≤ 4096 := by decide) (c : t.all (· < 0x110000) = true := by decide) : RV K ca φ H (.str t) (.str (sx t)) := ⟨rfl, Nat.le_trans z (by rw [sizeLine_eq]; decide), c⟩
theorem rv_tup {K : PySem.W.Frag} {ca : CA} {φ : Pl} {H : Hp} {a : Addr} {l : List PV} {vs : List V} (t : KT K a vs) (z : l.length ≤ 4096) (r : RVs K ca φ H l vs) : RV K ca φ H (.tup l) (.ref a) := ⟨a, vs, rfl, .inr t, Nat.le_trans z (by rw [sizeLine_eq]; decide), r⟩
section
variable {K : PySem.W.Frag} {x qual : Str} {params : Arguments} {body : List Stmt} {scope : Scope} {dvs : List V} {f : Addr} {fd : FuncData} {ps : List Str}
theorem binds_n (h : Binds K fd ps []) : BindsD K fd ps [] := fun n h1 h2 => ⟨[], by rw [List.drop_nil]; exact .nil, h⟩
theorem binds_1 {d : V} (hp : 0 < ps.length) (h0 : ∃ ds, Vals [d] ds ∧ Binds K fd ps ds) (h1 : ∃ ds, Vals [] ds ∧ Binds K fd ps ds) : BindsD K fd ps [d] := fun n g1 g2 => by
  have g2 : ps.length ≤ n + 1 := g2
  by_cases e : n = ps.length
  · rw [show ([d] : List V).length + n - ps.length = 1 from by rw [e]; show 1 + ps.length - ps.length = 1; omega]
    exact h1
  · rw [show ([d] : List V).length + n - ps.length = 0 from by show 1 + n - ps.length = 0; omega]
    exact h0
theorem fg_none {P : Program} {w : World} {mg : Str → Option Value} {base : Heap} {k : Nat} {ca : CA} {c : XC} (h : ∀ l g, c l g = none) : FnG P w K mg base k f (spOf K ca c) := fun A outer s H us vs Q _ _ _ _ hs => by
  obtain ⟨φ, g, xs, z, h', _, _, e, _⟩ := hs
  rw [h] at e
  cases e
end
end Lt

set_option maxRecDepth 100000
set_option maxHeartbeats 0
namespace k05
open Lt PySem PySem.Spec L2
structure Wf (K : PySem.W.Frag) (mg : Str → Option Value) : Prop where
  g0 : mg "law" = some (.ref (adr K 0))
  k0 : PySem.W.keepIn K (.ref (adr K 0)) = true
  g1 : mg "_law_keg" = some (.ref (adr K 1))
  k1 : PySem.W.keepIn K (.ref (adr K 1)) = true
  g2 : mg "_law_sides" = some (.ref (adr K 2))
  k2 : PySem.W.keepIn K (.ref (adr K 2)) = true
  g3 : mg "_law_choices" = some (.ref (adr K 3))
  k3 : PySem.W.keepIn K (.ref (adr K 3)) = true
  g4 : mg "_law_tap" = some (.ref (adr K 4))
  k4 : PySem.W.keepIn K (.ref (adr K 4)) = true
  g5 : mg "_law_choice" = some (.ref (adr K 5))
  k5 : PySem.W.keepIn K (.ref (adr K 5)) = true
  g6 : mg "_law_frame_of" = some (.ref (adr K 6))
  k6 : PySem.W.keepIn K (.ref (adr K 6)) = true
  g8 : mg "lengths_of" = some (.ref (adr K 8))
  k8 : PySem.W.keepIn K (.ref (adr K 8)) = true
  g9 : mg "are_frame" = some (.ref (adr K 9))
  k9 : PySem.W.keepIn K (.ref (adr K 9)) = true
  g10 : mg "are_names" = some (.ref (adr K 10))
  k10 : PySem.W.keepIn K (.ref (adr K 10)) = true
  g11 : mg "is_name" = some (.ref (adr K 11))
  k11 : PySem.W.keepIn K (.ref (adr K 11)) = true
  g12 : mg "is_array" = some (.ref (adr K 12))
  k12 : PySem.W.keepIn K (.ref (adr K 12)) = true
  g13 : mg "_law_own_names" = some (.ref (adr K 13))
  k13 : PySem.W.keepIn K (.ref (adr K 13)) = true
  g14 : mg "_law_all_names" = some (.ref (adr K 14))
  k14 : PySem.W.keepIn K (.ref (adr K 14)) = true
  g15 : mg "_law_claim" = some (.ref (adr K 15))
  k15 : PySem.W.keepIn K (.ref (adr K 15)) = true
  g16 : mg "_law_body" = some (.ref (adr K 16))
  k16 : PySem.W.keepIn K (.ref (adr K 16)) = true
  g17 : mg "_law_worth" = some (.ref (adr K 17))
  k17 : PySem.W.keepIn K (.ref (adr K 17)) = true
  g18 : mg "_law_place" = some (.ref (adr K 18))
  k18 : PySem.W.keepIn K (.ref (adr K 18)) = true
  g19 : mg "_law_number" = some (.ref (adr K 19))
  k19 : PySem.W.keepIn K (.ref (adr K 19)) = true
  g20 : mg "_law_place_names" = some (.ref (adr K 20))
  k20 : PySem.W.keepIn K (.ref (adr K 20)) = true
  g21 : mg "_law_guard" = some (.ref (adr K 21))
  k21 : PySem.W.keepIn K (.ref (adr K 21)) = true
  g22 : mg "_law_limits_right" = some (.ref (adr K 22))
  k22 : PySem.W.keepIn K (.ref (adr K 22)) = true
  g23 : mg "_law_deep" = some (.ref (adr K 23))
  k23 : PySem.W.keepIn K (.ref (adr K 23)) = true
  g24 : mg "is_claim" = some (.ref (adr K 24))
  k24 : PySem.W.keepIn K (.ref (adr K 24)) = true
  g25 : mg "require_frame" = some (.ref (adr K 25))
  k25 : PySem.W.keepIn K (.ref (adr K 25)) = true
  g26 : mg "is_claim_for" = some (.ref (adr K 26))
  k26 : PySem.W.keepIn K (.ref (adr K 26)) = true
  g27 : mg "is_claim_in" = some (.ref (adr K 27))
  k27 : PySem.W.keepIn K (.ref (adr K 27)) = true
  g28 : mg "is_joined" = some (.ref (adr K 28))
  k28 : PySem.W.keepIn K (.ref (adr K 28)) = true
  g29 : mg "has_shape" = some (.ref (adr K 29))
  k29 : PySem.W.keepIn K (.ref (adr K 29)) = true
  g30 : mg "is_all_in" = some (.ref (adr K 30))
  k30 : PySem.W.keepIn K (.ref (adr K 30)) = true
  g31 : mg "are_own" = some (.ref (adr K 31))
  k31 : PySem.W.keepIn K (.ref (adr K 31)) = true
  g33 : mg "is_guard_in" = some (.ref (adr K 33))
  k33 : PySem.W.keepIn K (.ref (adr K 33)) = true
  g34 : mg "is_op" = some (.ref (adr K 34))
  k34 : PySem.W.keepIn K (.ref (adr K 34)) = true
  g35 : mg "is_guard_term" = some (.ref (adr K 35))
  k35 : PySem.W.keepIn K (.ref (adr K 35)) = true
  g36 : mg "is_position" = some (.ref (adr K 36))
  k36 : PySem.W.keepIn K (.ref (adr K 36)) = true
  g37 : mg "is_place_name" = some (.ref (adr K 37))
  k37 : PySem.W.keepIn K (.ref (adr K 37)) = true
  g38 : mg "has_kind" = some (.ref (adr K 38))
  k38 : PySem.W.keepIn K (.ref (adr K 38)) = true
  g40 : mg "is_integer" = some (.ref (adr K 40))
  k40 : PySem.W.keepIn K (.ref (adr K 40)) = true
  g41 : mg "is_body_in" = some (.ref (adr K 41))
  k41 : PySem.W.keepIn K (.ref (adr K 41)) = true
  g42 : mg "is_body_term" = some (.ref (adr K 42))
  k42 : PySem.W.keepIn K (.ref (adr K 42)) = true
  g43 : mg "is_value" = some (.ref (adr K 43))
  k43 : PySem.W.keepIn K (.ref (adr K 43)) = true
  g44 : mg "is_cell" = some (.ref (adr K 44))
  k44 : PySem.W.keepIn K (.ref (adr K 44)) = true
  g45 : mg "claim_depth" = some (.ref (adr K 45))
  k45 : PySem.W.keepIn K (.ref (adr K 45)) = true
  g46 : mg "require_both" = some (.ref (adr K 46))
  k46 : PySem.W.keepIn K (.ref (adr K 46)) = true
  g47 : mg "require_claim" = some (.ref (adr K 47))
  k47 : PySem.W.keepIn K (.ref (adr K 47)) = true
  g48 : mg "depth_of" = some (.ref (adr K 48))
  k48 : PySem.W.keepIn K (.ref (adr K 48)) = true
  g49 : mg "claim_parts" = some (.ref (adr K 49))
  k49 : PySem.W.keepIn K (.ref (adr K 49)) = true
  g50 : mg "_law_all_judged" = some (.ref (adr K 50))
  k50 : PySem.W.keepIn K (.ref (adr K 50)) = true
  g51 : mg "_law_is_claim" = some (.ref (adr K 51))
  k51 : PySem.W.keepIn K (.ref (adr K 51)) = true
  g52 : mg "_law_are_joined" = some (.ref (adr K 52))
  k52 : PySem.W.keepIn K (.ref (adr K 52)) = true
  g53 : mg "_law_starts" = some (.ref (adr K 53))
  k53 : PySem.W.keepIn K (.ref (adr K 53)) = true
  g54 : mg "_law_is_op" = some (.ref (adr K 54))
  k54 : PySem.W.keepIn K (.ref (adr K 54)) = true
  g55 : mg "_law_is_body" = some (.ref (adr K 55))
  k55 : PySem.W.keepIn K (.ref (adr K 55)) = true
  g56 : mg "_law_is_worth" = some (.ref (adr K 56))
  k56 : PySem.W.keepIn K (.ref (adr K 56)) = true
  g57 : mg "_law_is_whole" = some (.ref (adr K 57))
  k57 : PySem.W.keepIn K (.ref (adr K 57)) = true
  g58 : mg "_law_is_place" = some (.ref (adr K 58))
  k58 : PySem.W.keepIn K (.ref (adr K 58)) = true
  g59 : mg "_law_are_own" = some (.ref (adr K 59))
  k59 : PySem.W.keepIn K (.ref (adr K 59)) = true
  g60 : mg "_law_is_guard" = some (.ref (adr K 60))
  k60 : PySem.W.keepIn K (.ref (adr K 60)) = true
  g61 : mg "is_guard" = some (.ref (adr K 61))
  k61 : PySem.W.keepIn K (.ref (adr K 61)) = true
  g62 : mg "require_own" = some (.ref (adr K 62))
  k62 : PySem.W.keepIn K (.ref (adr K 62)) = true
  g63 : mg "is_body" = some (.ref (adr K 63))
  k63 : PySem.W.keepIn K (.ref (adr K 63)) = true
  g64 : mg "_law_bent" = some (.ref (adr K 64))
  k64 : PySem.W.keepIn K (.ref (adr K 64)) = true
  g65 : mg "_law_odd" = some (.ref (adr K 65))
  k65 : PySem.W.keepIn K (.ref (adr K 65)) = true
  n_abs : mg "abs" = none
  n_all : mg "all" = none
  n_bool : mg "bool" = none
  n_dict : mg "dict" = none
  n_int : mg "int" = none
  n_isinstance : mg "isinstance" = none
  n_len : mg "len" = none
  n_list : mg "list" = none
  n_max : mg "max" = none
  n_min : mg "min" = none
  n_range : mg "range" = none
  n_repr : mg "repr" = none
  n_set : mg "set" = none
  n_sorted : mg "sorted" = none
  n_str : mg "str" = none
  n_tuple : mg "tuple" = none
  c_DEEP : ∃ t, mg "DEEP" = some (.int (100) t)
  c_GREATEST : ∃ t, mg "GREATEST" = some (.int (1000000000000000000000000000000000000000000000000000000000000) t)
  c_GUARD_OPS : mg "GUARD_OPS" = some (.ref (He.ga K "GUARD_OPS"))
  d_GUARD_OPS : ∀ φ H, RV K (ca K) φ H (.tup [.str [60, 61], .str [61, 61]]) (.ref (He.ga K "GUARD_OPS"))
  c_LETTERS : ∃ t, mg "LETTERS" = some (.str (sx [97, 98, 99, 100, 101, 102, 103, 104, 105, 106, 107, 108, 109, 110, 111, 112, 113, 114, 115, 116, 117, 118, 119, 120, 121, 122]) t)
  c_MAX_ARRAYS : ∃ t, mg "MAX_ARRAYS" = some (.int (12) t)
  c_MAX_DEPTH : ∃ t, mg "MAX_DEPTH" = some (.int (12) t)
  c_MAX_NAME : ∃ t, mg "MAX_NAME" = some (.int (8) t)
  c_MAX_OTHERS : ∃ t, mg "MAX_OTHERS" = some (.int (6) t)
  c_OPS : mg "OPS" = some (.ref (He.ga K "OPS"))
  d_OPS : ∀ φ H, RV K (ca K) φ H (.tup [.str [60, 61], .str [60], .str [61, 61]]) (.ref (He.ga K "OPS"))
  s_Frame : SlX.SCls K (ca K 0)
  gc_Frame : mg "Frame" = some (.ref (ca K 0))
  i_Frame : SlX.SIsi K (ca K 0)
  mk_Frame : Mk K (ca K 0) (adr K 7)
  h_Frame : PySem.W.findIn K (.ref (ca K 0)) "__contains__" = some (some (.ref (adr K 39)))
  t_Frame : PySem.W.isFn K (.ref (adr K 39)) = true
  s_Frame_own_arrays : SlX.Slot1 K (ca K 0) "own_arrays" (He.ma K (ca K 0) "own_arrays") 0
  s_Frame_own_kinds : SlX.Slot1 K (ca K 0) "own_kinds" (He.ma K (ca K 0) "own_kinds") 1
  s_Frame_own_length : SlX.Slot1 K (ca K 0) "own_length" (He.ma K (ca K 0) "own_length") 2
  s_Frame_own_lengths : SlX.Slot1 K (ca K 0) "own_lengths" (He.ma K (ca K 0) "own_lengths") 3
  s_Frame_own_positions : SlX.Slot1 K (ca K 0) "own_positions" (He.ma K (ca K 0) "own_positions") 4
  s_Frame_own_values : SlX.Slot1 K (ca K 0) "own_values" (He.ma K (ca K 0) "own_values") 5
  m_Frame_is_fresh : Meth K (ca K 0) "is_fresh" (adr K 32)
structure Wd (P : Program) (w : World) (K : PySem.W.Frag) (mg : Str → Option Value) (base : Heap) (k : Nat) : Prop extends Wf K mg where
  f : ∀ i, FnG P w K mg base (2 * k) (adr K i) (spOf K (ca K) (callS T k i))
section
variable {P : Program} {w : World} {K : PySem.W.Frag} {mg : Str → Option Value} {base : Heap} {k : Nat}
/-- law -/
theorem w0 (W : Wd P w K mg base k) (A : Around) (outer : List Env) (s : Shared) (H : Hp) (cd : Value) (C : Cok (cxOf L2.CX0 P w K mg base ["script", "at", "keg", "sides", "good", "value", "frame", "own", "turn", "near"] "law" (defScope (top 82)) (adr K 0) cd A outer s H L2.E0) (2 * k + 1)) (po : PassesOwn (model P w) (A.deeper (PyProof.Rows.envOfC "law" (defScope (top 82)) s.heap.objs.size (adr K 0) cd)) (PyProof.Rows.envOfC "law" (defScope (top 82)) s.heap.objs.size (adr K 0) cd) (cxOf L2.CX0 P w K mg base ["script", "at", "keg", "sides", "good", "value", "frame", "own", "turn", "near"] "law" (defScope (top 82)) (adr K 0) cd A outer s H L2.E0).xe) :
  PSs (cxOf L2.CX0 P w K mg base ["script", "at", "keg", "sides", "good", "value", "frame", "own", "turn", "near"] "law" (defScope (top 82)) (adr K 0) cd A outer s H L2.E0) (defBody (top 82)) (tDS K (ca K) (b_law (callS T k))) :=
    (ss_cons (s_fo C po (i_r1 W.n_range (rb_max C W.n_max (r_cons r_int (r_cons (rb_min C W.n_min (r_cons r_int (r_cons (rb_len C W.n_len (r_cons r_var r_nil)) r_nil))) r_nil)))) (g_name C) (ss_cons (s_st C (r_call C (W.f 1) W.g1 W.k1 (r_cons r_var (r_cons r_var r_nil))))
    (ss_cons (s_st C (r_call C (W.f 2) W.g2 W.k2 (r_cons r_var (r_cons r_int r_nil))))
    (ss_cons (s_p2 C (r_cons (r_call C (W.f 6) W.g6 W.k6 (r_cons r_var r_nil)) (r_cons (r_call C (W.f 13) W.g13 W.k13 (r_cons r_var (r_cons r_var r_nil))) r_nil)))
    (ss_cons (s_st C (r_lst (r_cons (r_call C (W.f 15) W.g15 W.k15 (r_cons r_var (r_cons r_var (r_cons r_int r_nil)))) (r_cons (r_call C (W.f 21) W.g21 W.k21 (r_cons r_var (r_cons r_var (r_cons r_var (r_cons r_int r_nil))))) (r_cons (r_call C (W.f 16) W.g16 W.k16 (r_cons r_var (r_cons r_var (r_cons r_var (r_cons r_int r_nil))))) r_nil)))))
    (ss_cons (s_fo C po (i_sq (r_op .add r_var (r_lst (r_cons (r_call C (W.f 15) W.g15 W.k15 (r_cons r_var (r_cons r_var (r_cons r_int r_nil)))) r_nil)))) (g_name C) (ss_cons (s_if (t_not (t_tst (r_call C (W.f 50) W.g50 W.k50 (r_cons r_var (r_cons r_var (r_cons r_var (r_cons r_var r_nil))))))) (ss_one (s_rt r_bl)) ss_nil)
    (ss_one (s_fo C po (i_r1 W.n_range r_int) (g_name C) (ss_cons (s_st C (r_call C (W.f 64) W.g64 W.k64 (r_cons r_var (r_cons r_var (r_cons r_var (r_cons r_int r_nil))))))
    (ss_cons (s_if (t_w (w_and (t_rcmp .gt C r_var r_int) (w_and1 (t_tst (ri_tuple W.n_isinstance W.n_tuple r_var))))) (ss_one (s_st C (r_call C (W.f 64) W.g64 W.k64 (r_cons r_var (r_cons r_var (r_cons r_var (r_cons r_int r_nil))))))) ss_nil)
    (ss_one (s_if (t_not (t_tst (r_call C (W.f 50) W.g50 W.k50 (r_cons r_var (r_cons r_var (r_cons r_var (r_cons r_var r_nil))))))) (ss_one (s_rt r_bl)) ss_nil))))))))
    (ss_one (s_if (t_not (t_tst (r_call C (W.f 22) W.g22 W.k22 (r_cons r_var (r_cons r_var (r_cons r_var r_nil)))))) (ss_one (s_rt r_bl)) ss_nil))))))))
    (ss_one (s_rt r_bl)))
/-- u_law_keg -/
theorem w1 (W : Wd P w K mg base k) (A : Around) (outer : List Env) (s : Shared) (H : Hp) (cd : Value) (C : Cok (cxOf L2.CX0 P w K mg base ["script", "at", "cell", "great", "seed"] "_law_keg" (defScope (top 52)) (adr K 1) cd A outer s H L2.E0) (2 * k + 1)) (po : PassesOwn (model P w) (A.deeper (PyProof.Rows.envOfC "_law_keg" (defScope (top 52)) s.heap.objs.size (adr K 1) cd)) (PyProof.Rows.envOfC "_law_keg" (defScope (top 52)) s.heap.objs.size (adr K 1) cd) (cxOf L2.CX0 P w K mg base ["script", "at", "cell", "great", "seed"] "_law_keg" (defScope (top 52)) (adr K 1) cd A outer s H L2.E0).xe) :
  PSs (cxOf L2.CX0 P w K mg base ["script", "at", "cell", "great", "seed"] "_law_keg" (defScope (top 52)) (adr K 1) cd A outer s H L2.E0) (defBody (top 52)) (tDS K (ca K) (b_u_law_keg (callS T k))) :=
    (ss_cons (s_st C (r_if (t_rcmp .lt C r_var (rb_len C W.n_len (r_cons r_var r_nil))) (r_ix C r_var r_var) (r_op .add (r_op .mul r_int r_var) r_int)))
    (ss_cons (s_st C (r_op .mod (rb_int C W.n_int (r_cons (rb_abs C W.n_abs (r_cons r_var r_nil)) r_nil)) (r_op .pow (r_op .pow r_int r_int) r_int)))
    (ss_cons (s_st C (r_op .mod (rb_int C W.n_int (r_cons (r_op .add (r_op .add (r_op .add r_var (r_op .mul r_int r_var)) (r_op .mul r_int (rb_int C W.n_int (r_cons (r_cmp .lt C r_var r_int) r_nil)))) r_int) r_nil)) (r_op .add (r_op .pow r_int r_int) r_int)))
    (ss_one (s_rt (r_lst (r_cons (r_if (t_rcmp .gt C r_var (r_op .pow r_int r_int)) (r_op .sub r_var (r_op .pow r_int r_int)) r_int) (r_cons r_var (r_cons r_int r_nil)))))))))
/-- u_law_sides -/
theorem w2 (W : Wd P w K mg base k) (A : Around) (outer : List Env) (s : Shared) (H : Hp) (cd : Value) (C : Cok (cxOf L2.CX0 P w K mg base ["keg", "most", "words", "arrays", "positions", "count", "lengths", "at"] "_law_sides" (defScope (top 56)) (adr K 2) cd A outer s H L2.E0) (2 * k + 1)) (po : PassesOwn (model P w) (A.deeper (PyProof.Rows.envOfC "_law_sides" (defScope (top 56)) s.heap.objs.size (adr K 2) cd)) (PyProof.Rows.envOfC "_law_sides" (defScope (top 56)) s.heap.objs.size (adr K 2) cd) (cxOf L2.CX0 P w K mg base ["keg", "most", "words", "arrays", "positions", "count", "lengths", "at"] "_law_sides" (defScope (top 56)) (adr K 2) cd A outer s H L2.E0).xe) :
  PSs (cxOf L2.CX0 P w K mg base ["keg", "most", "words", "arrays", "positions", "count", "lengths", "at"] "_law_sides" (defScope (top 56)) (adr K 2) cd A outer s H L2.E0) (defBody (top 56)) (tDS K (ca K) (b_u_law_sides (callS T k))) :=
    (ss_cons (s_st C (r_call C (W.f 3) W.g3 W.k3 (r_cons r_var (r_cons (r_lst (r_cons r_str (r_cons r_str (r_cons r_str (r_cons r_str (r_cons r_str (r_cons r_str (r_cons r_str (r_cons r_str (r_cons r_str (r_cons r_str (r_cons r_str (r_cons r_str (r_cons r_str (r_cons r_str r_nil))))))))))))))) (r_cons r_int r_nil)))))
    (ss_cons (s_tu C (r_tup (r_cons (r_call C (W.f 4) W.g4 W.k4 (r_cons r_var (r_cons (r_op .add r_var r_int) r_nil))) (r_cons (r_sl r_var r_po0 (r_po (r_op .add r_int (r_call C (W.f 4) W.g4 W.k4 (r_cons r_var (r_cons r_int r_nil)))))) r_nil))) (g_tup C (gs_cons (g_name C) (gs_cons (g_name C) gs_nil))))
    (ss_cons (s_st C (rb_ptup C W.n_tuple (r_cons (r_lc [("at", 7)] C (i_r1 W.n_range r_var) (fun _ _ _ _ _ C => (g_name C)) (fun _ _ _ _ _ C => ts_nil) (fun _ _ _ _ _ C => (r_tup (r_cons (r_ix C r_var (r_op .add r_int r_var)) (r_cons (r_call C (W.f 5) W.g5 W.k5 (r_cons r_var (r_cons r_var r_nil))) r_nil))))) r_nil)))
    (ss_cons (s_st C (rb_tuple C W.n_tuple (r_cons (r_sl r_var (r_po r_int) (r_po (r_op .add r_int (r_call C (W.f 4) W.g4 W.k4 (r_cons r_var (r_cons (r_op .add r_var r_int) r_nil)))))) r_nil)))
    (ss_one (s_rt (r_lst (r_cons r_var (r_cons r_var (r_cons (rb_tuple C W.n_tuple (r_cons (r_sl r_var (r_po r_int) (r_po (r_op .add r_int (r_call C (W.f 4) W.g4 W.k4 (r_cons r_var (r_cons (r_op .add r_var r_int) r_nil)))))) r_nil)) r_nil))))))))))
/-- u_law_choices -/
theorem w3 (W : Wd P w K mg base k) (A : Around) (outer : List Env) (s : Shared) (H : Hp) (cd : Value) (C : Cok (cxOf L2.CX0 P w K mg base ["keg", "items", "count", "turn", "left", "found"] "_law_choices" (defScope (top 54)) (adr K 3) cd A outer s H L2.E0) (2 * k + 1)) (po : PassesOwn (model P w) (A.deeper (PyProof.Rows.envOfC "_law_choices" (defScope (top 54)) s.heap.objs.size (adr K 3) cd)) (PyProof.Rows.envOfC "_law_choices" (defScope (top 54)) s.heap.objs.size (adr K 3) cd) (cxOf L2.CX0 P w K mg base ["keg", "items", "count", "turn", "left", "found"] "_law_choices" (defScope (top 54)) (adr K 3) cd A outer s H L2.E0).xe) :
  PSs (cxOf L2.CX0 P w K mg base ["keg", "items", "count", "turn", "left", "found"] "_law_choices" (defScope (top 54)) (adr K 3) cd A outer s H L2.E0) (defBody (top 54)) (tDS K (ca K) (b_u_law_choices (callS T k))) :=
    (ss_cons (s_p2 C (r_cons (rb_list C W.n_list (r_cons r_var r_nil)) (r_cons (r_lst r_nil) r_nil)))
    (ss_cons (s_fo C po (i_r1 W.n_range (rb_min C W.n_min (r_cons r_var (r_cons (rb_len C W.n_len (r_cons r_var r_nil)) r_nil)))) (g_name C) (ss_one (s_ex (r_append r_var (r_cons (r_popAt r_var (r_cons (r_call C (W.f 4) W.g4 W.k4 (r_cons r_var (r_cons (rb_len C W.n_len (r_cons r_var r_nil)) r_nil))) r_nil)) r_nil)))))
    (ss_one (s_rt r_var))))
/-- u_law_tap -/
theorem w4 (W : Wd P w K mg base k) (A : Around) (outer : List Env) (s : Shared) (H : Hp) (cd : Value) (C : Cok (cxOf L2.CX0 P w K mg base ["keg", "total", "one", "two", "three", "found"] "_law_tap" (defScope (top 53)) (adr K 4) cd A outer s H L2.E0) (2 * k + 1)) (po : PassesOwn (model P w) (A.deeper (PyProof.Rows.envOfC "_law_tap" (defScope (top 53)) s.heap.objs.size (adr K 4) cd)) (PyProof.Rows.envOfC "_law_tap" (defScope (top 53)) s.heap.objs.size (adr K 4) cd) (cxOf L2.CX0 P w K mg base ["keg", "total", "one", "two", "three", "found"] "_law_tap" (defScope (top 53)) (adr K 4) cd A outer s H L2.E0).xe) :
  PSs (cxOf L2.CX0 P w K mg base ["keg", "total", "one", "two", "three", "found"] "_law_tap" (defScope (top 53)) (adr K 4) cd A outer s H L2.E0) (defBody (top 53)) (tDS K (ca K) (b_u_law_tap (callS T k))) :=
    (ss_cons (s_if (t_rcmp .gt C (r_ix C r_var r_int) r_int) (ss_cons (s_st C (r_op .mod (rb_int C W.n_int (r_cons (r_ix C r_var r_int) r_nil)) r_var))
    (ss_cons (s_ix C r_var r_int (r_op .fdiv (r_ix C r_var r_int) r_var))
    (ss_one (s_rt r_var)))) ss_nil)
    (ss_cons (s_ix C r_var r_int (r_op .add (r_ix C r_var r_int) r_int))
    (ss_cons (s_st C (r_op .mod (rb_int C W.n_int (r_cons (r_op .add (r_ix C r_var r_int) (r_op .mul r_int (r_ix C r_var r_int))) r_nil)) r_int))
    (ss_cons (s_st C (r_op .mod (rb_int C W.n_int (r_cons (r_op .add (r_op .add (r_op .mul r_var r_var) (r_op .fdiv (r_ix C r_var r_int) r_int)) (r_op .mul r_int (r_ix C r_var r_int))) r_nil)) r_int))
    (ss_cons (s_st C (r_op .mod (rb_int C W.n_int (r_cons (r_op .add (r_op .mul r_var r_var) r_var) r_nil)) r_int))
    (ss_one (s_rt (r_op .mod (rb_int C W.n_int (r_cons (r_op .fdiv r_var r_int) r_nil)) r_var))))))))
/-- u_law_choice -/
theorem w5 (W : Wd P w K mg base k) (A : Around) (outer : List Env) (s : Shared) (H : Hp) (cd : Value) (C : Cok (cxOf L2.CX0 P w K mg base ["keg", "items"] "_law_choice" (defScope (top 55)) (adr K 5) cd A outer s H L2.E0) (2 * k + 1)) (po : PassesOwn (model P w) (A.deeper (PyProof.Rows.envOfC "_law_choice" (defScope (top 55)) s.heap.objs.size (adr K 5) cd)) (PyProof.Rows.envOfC "_law_choice" (defScope (top 55)) s.heap.objs.size (adr K 5) cd) (cxOf L2.CX0 P w K mg base ["keg", "items"] "_law_choice" (defScope (top 55)) (adr K 5) cd A outer s H L2.E0).xe) :
  PSs (cxOf L2.CX0 P w K mg base ["keg", "items"] "_law_choice" (defScope (top 55)) (adr K 5) cd A outer s H L2.E0) (defBody (top 55)) (tDS K (ca K) (b_u_law_choice (callS T k))) :=
    (ss_one (s_rt (r_ix C r_var (r_call C (W.f 4) W.g4 W.k4 (r_cons r_var (r_cons (rb_len C W.n_len (r_cons r_var r_nil)) r_nil))))))
/-- u_law_frame_of -/
theorem w6 (W : Wd P w K mg base k) (A : Around) (outer : List Env) (s : Shared) (H : Hp) (cd : Value) (C : Cok (cxOf L2.CX0 P w K mg base ["sides"] "_law_frame_of" (defScope (top 57)) (adr K 6) cd A outer s H L2.E0) (2 * k + 1)) (po : PassesOwn (model P w) (A.deeper (PyProof.Rows.envOfC "_law_frame_of" (defScope (top 57)) s.heap.objs.size (adr K 6) cd)) (PyProof.Rows.envOfC "_law_frame_of" (defScope (top 57)) s.heap.objs.size (adr K 6) cd) (cxOf L2.CX0 P w K mg base ["sides"] "_law_frame_of" (defScope (top 57)) (adr K 6) cd A outer s H L2.E0).xe) :
  PSs (cxOf L2.CX0 P w K mg base ["sides"] "_law_frame_of" (defScope (top 57)) (adr K 6) cd A outer s H L2.E0) (defBody (top 57)) (tDS K (ca K) (b_u_law_frame_of (callS T k))) :=
    (ss_one (s_rt (r_make C W.mk_Frame (W.f 7) W.gc_Frame (r_cons (r_wk (r_ix C r_var r_int)) (r_cons (r_ix C r_var r_int) (r_cons (r_ix C r_var r_int) r_nil))))))
/-- Frame_init -/
theorem w7 (W : Wd P w K mg base k) (A : Around) (outer : List Env) (s : Shared) (H : Hp) (cd : Value) (C : Cok (cxOf L2.CX0 P w K mg base ["self", "arrays", "positions", "values", "name", "length"] "Frame.__init__" (defScope (mth 18 1)) (adr K 7) cd A outer s H L2.E0) (2 * k + 1)) (po : PassesOwn (model P w) (A.deeper (PyProof.Rows.envOfC "Frame.__init__" (defScope (mth 18 1)) s.heap.objs.size (adr K 7) cd)) (PyProof.Rows.envOfC "Frame.__init__" (defScope (mth 18 1)) s.heap.objs.size (adr K 7) cd) (cxOf L2.CX0 P w K mg base ["self", "arrays", "positions", "values", "name", "length"] "Frame.__init__" (defScope (mth 18 1)) (adr K 7) cd A outer s H L2.E0).xe) :
  PSs (cxOf L2.CX0 P w K mg base ["self", "arrays", "positions", "values", "name", "length"] "Frame.__init__" (defScope (mth 18 1)) (adr K 7) cd A outer s H L2.E0) (defBody (mth 18 1)) (tDS K (ca K) (b_Frame_init (callS T k))) :=
    (ss_cons (s_if (t_not (t_tst (r_call C (W.f 9) W.g9 W.k9 (r_cons r_var (r_cons r_var (r_cons r_var r_nil)))))) (ss_one s_no) ss_nil)
    (ss_cons (s_fl W.s_Frame W.s_Frame_own_arrays r_var r_var)
    (ss_cons (s_fl W.s_Frame W.s_Frame_own_length r_var (r_dc [("name", 4), ("length", 5)] C (i_sq r_var) (fun _ _ _ _ _ C => (g_tup C (gs_cons (g_name C) (gs_cons (g_name C) gs_nil)))) (fun _ _ _ _ _ C => r_var) (fun _ _ _ _ _ C => r_var)))
    (ss_cons (s_fl W.s_Frame W.s_Frame_own_lengths r_var (r_call C (W.f 8) W.g8 W.k8 (r_cons r_var r_nil)))
    (ss_cons (s_fl W.s_Frame W.s_Frame_own_positions r_var r_var)
    (ss_cons (s_fl W.s_Frame W.s_Frame_own_values r_var r_var)
    (ss_one (s_fl W.s_Frame W.s_Frame_own_kinds r_var (r_dctS (n := 4) (.cons (r_dcK [("name", 4)] C ptd_slot (i_keys (pe_pslot W.s_Frame W.s_Frame_own_length)) (fun _ _ _ _ _ C => (g_name C)) (fun _ _ _ _ _ C => r_var) (fun _ _ _ _ _ C => r_str)) (.cons (r_dc [("name", 4)] C (i_sq (r_fld W.s_Frame W.s_Frame_own_lengths r_var)) (fun _ _ _ _ _ C => (g_name C)) (fun _ _ _ _ _ C => r_var) (fun _ _ _ _ _ C => r_str)) (.cons (r_dc [("name", 4)] C (i_sq r_var) (fun _ _ _ _ _ C => (g_name C)) (fun _ _ _ _ _ C => r_var) (fun _ _ _ _ _ C => r_str)) (.cons (r_dc [("name", 4)] C (i_sq r_var) (fun _ _ _ _ _ C => (g_name C)) (fun _ _ _ _ _ C => r_var) (fun _ _ _ _ _ C => r_str)) .nil)))))))))))))
/-- lengths_of -/
theorem w8 (W : Wd P w K mg base k) (A : Around) (outer : List Env) (s : Shared) (H : Hp) (cd : Value) (C : Cok (cxOf L2.CX0 P w K mg base ["arrays", "name", "length"] "lengths_of" (defScope (top 16)) (adr K 8) cd A outer s H L2.E0) (2 * k + 1)) (po : PassesOwn (model P w) (A.deeper (PyProof.Rows.envOfC "lengths_of" (defScope (top 16)) s.heap.objs.size (adr K 8) cd)) (PyProof.Rows.envOfC "lengths_of" (defScope (top 16)) s.heap.objs.size (adr K 8) cd) (cxOf L2.CX0 P w K mg base ["arrays", "name", "length"] "lengths_of" (defScope (top 16)) (adr K 8) cd A outer s H L2.E0).xe) :
  PSs (cxOf L2.CX0 P w K mg base ["arrays", "name", "length"] "lengths_of" (defScope (top 16)) (adr K 8) cd A outer s H L2.E0) (defBody (top 16)) (tDS K (ca K) (b_lengths_of (callS T k))) :=
    (ss_one (s_rt (rb_tuple C W.n_tuple (r_cons (rb_list C W.n_list (r_cons (r_dc [("name", 1), ("length", 2)] C (i_sq r_var) (fun _ _ _ _ _ C => (g_tup C (gs_cons (g_name C) (gs_cons (g_name C) gs_nil)))) (fun _ _ _ _ _ C => r_var) (fun _ _ _ _ _ C => r_bl)) r_nil)) r_nil))))
/-- are_frame -/
theorem w9 (W : Wd P w K mg base k) (A : Around) (outer : List Env) (s : Shared) (H : Hp) (cd : Value) (C : Cok (cxOf L2.CX0 P w K mg base ["arrays", "positions", "values", "names", "array", "name", "length"] "are_frame" (defScope (top 17)) (adr K 9) cd A outer s H L2.E0) (2 * k + 1)) (po : PassesOwn (model P w) (A.deeper (PyProof.Rows.envOfC "are_frame" (defScope (top 17)) s.heap.objs.size (adr K 9) cd)) (PyProof.Rows.envOfC "are_frame" (defScope (top 17)) s.heap.objs.size (adr K 9) cd) (cxOf L2.CX0 P w K mg base ["arrays", "positions", "values", "names", "array", "name", "length"] "are_frame" (defScope (top 17)) (adr K 9) cd A outer s H L2.E0).xe) :
  PSs (cxOf L2.CX0 P w K mg base ["arrays", "positions", "values", "names", "array", "name", "length"] "are_frame" (defScope (top 17)) (adr K 9) cd A outer s H L2.E0) (defBody (top 17)) (tDS K (ca K) (b_are_frame (callS T k))) :=
    (ss_cons (s_if (t_w (w_or (t_not (t_tst (ri_tuple W.n_isinstance W.n_tuple r_var))) (w_or (t_rcmp .gt C (rb_len C W.n_len (r_cons r_var r_nil)) (r_gint W.c_MAX_ARRAYS)) (w_or1 (t_not (t_tst (rb_all C W.n_all (r_cons (r_lc [("array", 4)] C (i_sq r_var) (fun _ _ _ _ _ C => (g_name C)) (fun _ _ _ _ _ C => ts_nil) (fun _ _ _ _ _ C => (r_call C (W.f 12) W.g12 W.k12 (r_cons r_var r_nil)))) r_nil)))))))) (ss_one (s_rt r_bl)) ss_nil)
    (ss_cons (s_if (t_w (w_or (t_not (t_tst (r_call C (W.f 10) W.g10 W.k10 (r_cons r_var (r_cons (r_gint W.c_MAX_OTHERS) r_nil))))) (w_or1 (t_not (t_tst (r_call C (W.f 10) W.g10 W.k10 (r_cons r_var (r_cons (r_gint W.c_MAX_OTHERS) r_nil)))))))) (ss_one (s_rt r_bl)) ss_nil)
    (ss_cons (s_st C (r_lst (r_star (r_lc [("name", 5), ("length", 6)] C (i_sq r_var) (fun _ _ _ _ _ C => (g_tup C (gs_cons (g_name C) (gs_cons (g_name C) gs_nil)))) (fun _ _ _ _ _ C => ts_nil) (fun _ _ _ _ _ C => r_var)) (r_star (r_call C (W.f 8) W.g8 W.k8 (r_cons r_var r_nil)) (r_star r_var (r_star r_var r_nil))))))
    (ss_one (s_rt (r_cmp .eq C (r_lenSet C W.n_len W.n_set r_var) (rb_len C W.n_len (r_cons r_var r_nil))))))))
/-- are_names -/
theorem w10 (W : Wd P w K mg base k) (A : Around) (outer : List Env) (s : Shared) (H : Hp) (cd : Value) (C : Cok (cxOf L2.CX0 P w K mg base ["value", "most", "name"] "are_names" (defScope (top 14)) (adr K 10) cd A outer s H L2.E0) (2 * k + 1)) (po : PassesOwn (model P w) (A.deeper (PyProof.Rows.envOfC "are_names" (defScope (top 14)) s.heap.objs.size (adr K 10) cd)) (PyProof.Rows.envOfC "are_names" (defScope (top 14)) s.heap.objs.size (adr K 10) cd) (cxOf L2.CX0 P w K mg base ["value", "most", "name"] "are_names" (defScope (top 14)) (adr K 10) cd A outer s H L2.E0).xe) :
  PSs (cxOf L2.CX0 P w K mg base ["value", "most", "name"] "are_names" (defScope (top 14)) (adr K 10) cd A outer s H L2.E0) (defBody (top 14)) (tDS K (ca K) (b_are_names (callS T k))) :=
    (ss_one (s_rt (r_and (ri_tuple W.n_isinstance W.n_tuple r_var) (r_and (r_cmp .le C (rb_len C W.n_len (r_cons r_var r_nil)) r_var) (r_and1 (rb_all C W.n_all (r_cons (r_lc [("name", 2)] C (i_sq r_var) (fun _ _ _ _ _ C => (g_name C)) (fun _ _ _ _ _ C => ts_nil) (fun _ _ _ _ _ C => (r_call C (W.f 11) W.g11 W.k11 (r_cons r_var r_nil)))) r_nil)))))))
/-- is_name -/
theorem w11 (W : Wd P w K mg base k) (A : Around) (outer : List Env) (s : Shared) (H : Hp) (cd : Value) (C : Cok (cxOf L2.CX0 P w K mg base ["value", "letter"] "is_name" (defScope (top 13)) (adr K 11) cd A outer s H L2.E0) (2 * k + 1)) (po : PassesOwn (model P w) (A.deeper (PyProof.Rows.envOfC "is_name" (defScope (top 13)) s.heap.objs.size (adr K 11) cd)) (PyProof.Rows.envOfC "is_name" (defScope (top 13)) s.heap.objs.size (adr K 11) cd) (cxOf L2.CX0 P w K mg base ["value", "letter"] "is_name" (defScope (top 13)) (adr K 11) cd A outer s H L2.E0).xe) :
  PSs (cxOf L2.CX0 P w K mg base ["value", "letter"] "is_name" (defScope (top 13)) (adr K 11) cd A outer s H L2.E0) (defBody (top 13)) (tDS K (ca K) (b_is_name (callS T k))) :=
    (ss_one (s_rt (r_and (ri_str W.n_isinstance W.n_str r_var) (r_and (r_chain .le .le C r_int (rb_len C W.n_len (r_cons r_var r_nil)) (r_gint W.c_MAX_NAME)) (r_and1 (rb_all C W.n_all (r_cons (r_lc [("letter", 1)] C (i_sq r_var) (fun _ _ _ _ _ C => (g_name C)) (fun _ _ _ _ _ C => ts_nil) (fun _ _ _ _ _ C => (r_cmp .in_ C r_var (r_gstr W.c_LETTERS)))) r_nil)))))))
/-- is_array -/
theorem w12 (W : Wd P w K mg base k) (A : Around) (outer : List Env) (s : Shared) (H : Hp) (cd : Value) (C : Cok (cxOf L2.CX0 P w K mg base ["value"] "is_array" (defScope (top 15)) (adr K 12) cd A outer s H L2.E0) (2 * k + 1)) (po : PassesOwn (model P w) (A.deeper (PyProof.Rows.envOfC "is_array" (defScope (top 15)) s.heap.objs.size (adr K 12) cd)) (PyProof.Rows.envOfC "is_array" (defScope (top 15)) s.heap.objs.size (adr K 12) cd) (cxOf L2.CX0 P w K mg base ["value"] "is_array" (defScope (top 15)) (adr K 12) cd A outer s H L2.E0).xe) :
  PSs (cxOf L2.CX0 P w K mg base ["value"] "is_array" (defScope (top 15)) (adr K 12) cd A outer s H L2.E0) (defBody (top 15)) (tDS K (ca K) (b_is_array (callS T k))) :=
    (ss_one (s_rt (r_and (ri_tuple W.n_isinstance W.n_tuple r_var) (r_and (r_cmp .eq C (rb_len C W.n_len (r_cons r_var r_nil)) r_int) (r_and (r_call C (W.f 11) W.g11 W.k11 (r_cons (r_ix C r_var r_int) r_nil)) (r_and1 (r_call C (W.f 11) W.g11 W.k11 (r_cons (r_ix C r_var r_int) r_nil))))))))
/-- u_law_own_names -/
theorem w13 (W : Wd P w K mg base k) (A : Around) (outer : List Env) (s : Shared) (H : Hp) (cd : Value) (C : Cok (cxOf L2.CX0 P w K mg base ["keg", "sides", "names", "name"] "_law_own_names" (defScope (top 59)) (adr K 13) cd A outer s H L2.E0) (2 * k + 1)) (po : PassesOwn (model P w) (A.deeper (PyProof.Rows.envOfC "_law_own_names" (defScope (top 59)) s.heap.objs.size (adr K 13) cd)) (PyProof.Rows.envOfC "_law_own_names" (defScope (top 59)) s.heap.objs.size (adr K 13) cd) (cxOf L2.CX0 P w K mg base ["keg", "sides", "names", "name"] "_law_own_names" (defScope (top 59)) (adr K 13) cd A outer s H L2.E0).xe) :
  PSs (cxOf L2.CX0 P w K mg base ["keg", "sides", "names", "name"] "_law_own_names" (defScope (top 59)) (adr K 13) cd A outer s H L2.E0) (defBody (top 59)) (tDS K (ca K) (b_u_law_own_names (callS T k))) :=
    (ss_cons (s_setLc [("name", 3)] C (i_sq (r_lst (r_cons r_str (r_cons r_str (r_cons r_str (r_cons r_str (r_cons r_str (r_cons r_str (r_cons r_str r_nil))))))))) (fun _ _ _ _ _ C => (g_name C)) (fun _ _ _ _ _ C => (ts_one (t_rcmp .notIn C r_var (r_call C (W.f 14) W.g14 W.k14 (r_cons r_var r_nil))))) (fun _ _ _ _ _ C => r_var))
    (ss_one (s_rt (rb_tuple C W.n_tuple (r_cons (r_call C (W.f 3) W.g3 W.k3 (r_cons r_var (r_cons r_var (r_cons (r_op .add r_int (r_call C (W.f 4) W.g4 W.k4 (r_cons r_var (r_cons r_int r_nil)))) r_nil)))) r_nil)))))
/-- u_law_all_names -/
theorem w14 (W : Wd P w K mg base k) (A : Around) (outer : List Env) (s : Shared) (H : Hp) (cd : Value) (C : Cok (cxOf L2.CX0 P w K mg base ["sides", "pair"] "_law_all_names" (defScope (top 58)) (adr K 14) cd A outer s H L2.E0) (2 * k + 1)) (po : PassesOwn (model P w) (A.deeper (PyProof.Rows.envOfC "_law_all_names" (defScope (top 58)) s.heap.objs.size (adr K 14) cd)) (PyProof.Rows.envOfC "_law_all_names" (defScope (top 58)) s.heap.objs.size (adr K 14) cd) (cxOf L2.CX0 P w K mg base ["sides", "pair"] "_law_all_names" (defScope (top 58)) (adr K 14) cd A outer s H L2.E0).xe) :
  PSs (cxOf L2.CX0 P w K mg base ["sides", "pair"] "_law_all_names" (defScope (top 58)) (adr K 14) cd A outer s H L2.E0) (defBody (top 58)) (tDS K (ca K) (b_u_law_all_names (callS T k))) :=
    (ss_one (s_rt (r_op .add (r_op .add (r_op .add (r_lc [("pair", 1)] C (i_sq (r_wk (r_ix C r_var r_int))) (fun _ _ _ _ _ C => (g_name C)) (fun _ _ _ _ _ C => ts_nil) (fun _ _ _ _ _ C => (r_ix C r_var r_int))) (r_lc [("pair", 1)] C (i_sq (r_wk (r_ix C r_var r_int))) (fun _ _ _ _ _ C => (g_name C)) (fun _ _ _ _ _ C => ts_nil) (fun _ _ _ _ _ C => (r_ix C r_var r_int)))) (rb_list C W.n_list (r_cons (r_ix C r_var r_int) r_nil))) (rb_list C W.n_list (r_cons (r_ix C r_var r_int) r_nil)))))
/-- u_law_claim -/
theorem w15 (W : Wd P w K mg base k) (A : Around) (outer : List Env) (s : Shared) (H : Hp) (cd : Value) (C : Cok (cxOf L2.CX0 P w K mg base ["keg", "sides", "depth", "way", "own", "op", "parts", "turn"] "_law_claim" (defScope (top 66)) (adr K 15) cd A outer s H L2.E0) (2 * k + 1)) (po : PassesOwn (model P w) (A.deeper (PyProof.Rows.envOfC "_law_claim" (defScope (top 66)) s.heap.objs.size (adr K 15) cd)) (PyProof.Rows.envOfC "_law_claim" (defScope (top 66)) s.heap.objs.size (adr K 15) cd) (cxOf L2.CX0 P w K mg base ["keg", "sides", "depth", "way", "own", "op", "parts", "turn"] "_law_claim" (defScope (top 66)) (adr K 15) cd A outer s H L2.E0).xe) :
  PSs (cxOf L2.CX0 P w K mg base ["keg", "sides", "depth", "way", "own", "op", "parts", "turn"] "_law_claim" (defScope (top 66)) (adr K 15) cd A outer s H L2.E0) (defBody (top 66)) (tDS K (ca K) (b_u_law_claim (callS T k))) :=
    (ss_cons (s_st C (r_if (t_rcmp .gt C r_var r_int) (r_call C (W.f 4) W.g4 W.k4 (r_cons r_var (r_cons r_int r_nil))) (r_call C (W.f 4) W.g4 W.k4 (r_cons r_var (r_cons r_int r_nil)))))
    (ss_cons (s_if (t_rcmp .eq C r_var r_int) (ss_cons (s_st C (r_call C (W.f 5) W.g5 W.k5 (r_cons r_var (r_cons (r_lst (r_cons r_str (r_cons r_str (r_cons r_str r_nil)))) r_nil))))
    (ss_one (s_rt (r_tup (r_cons r_str (r_cons r_var (r_cons (r_call C (W.f 18) W.g18 W.k18 (r_cons r_var (r_cons r_var r_nil))) (r_cons (r_call C (W.f 18) W.g18 W.k18 (r_cons r_var (r_cons r_var r_nil))) r_nil)))))))) ss_nil)
    (ss_cons (s_if (t_rcmp .lt C r_var r_int) (ss_one (s_rt (r_call C (W.f 16) W.g16 W.k16 (r_cons r_var (r_cons r_var (r_cons (r_tup r_nil) (r_cons r_int r_nil))))))) ss_nil)
    (ss_cons (s_if (t_rcmp .eq C r_var r_int) (ss_one (s_rt (r_tup (r_cons r_str (r_cons (r_call C (W.f 15) W.g15 W.k15 (r_cons r_var (r_cons r_var (r_cons (r_op .sub r_var r_int) r_nil)))) r_nil))))) ss_nil)
    (ss_cons (s_if (t_rcmp .lt C r_var r_int) (ss_cons (s_setLc [("turn", 7)] C (i_r1 W.n_range (r_call C (W.f 4) W.g4 W.k4 (r_cons r_var (r_cons r_int r_nil)))) (fun _ _ _ _ _ C => (g_name C)) (fun _ _ _ _ _ C => ts_nil) (fun _ _ _ _ _ C => (r_call C (W.f 15) W.g15 W.k15 (r_cons r_var (r_cons r_var (r_cons (r_op .sub r_var r_int) r_nil))))))
    (ss_one (s_rt (r_tup (r_cons (r_call C (W.f 5) W.g5 W.k5 (r_cons r_var (r_cons (r_lst (r_cons r_str (r_cons r_str r_nil))) r_nil))) (r_cons (rb_tuple C W.n_tuple (r_cons r_var r_nil)) r_nil)))))) ss_nil)
    (ss_cons (s_st C (r_call C (W.f 13) W.g13 W.k13 (r_cons r_var (r_cons r_var r_nil))))
    (ss_one (s_rt (r_tup (r_cons r_str (r_cons r_var (r_cons (r_call C (W.f 21) W.g21 W.k21 (r_cons r_var (r_cons r_var (r_cons r_var (r_cons (r_op .sub r_var r_int) r_nil))))) (r_cons (r_call C (W.f 16) W.g16 W.k16 (r_cons r_var (r_cons r_var (r_cons r_var (r_cons (r_op .sub r_var r_int) r_nil))))) r_nil)))))))))))))
/-- u_law_body -/
theorem w16 (W : Wd P w K mg base k) (A : Around) (outer : List Env) (s : Shared) (H : Hp) (cd : Value) (C : Cok (cxOf L2.CX0 P w K mg base ["keg", "sides", "own", "depth", "way", "op", "parts", "turn"] "_law_body" (defScope (top 64)) (adr K 16) cd A outer s H L2.E0) (2 * k + 1)) (po : PassesOwn (model P w) (A.deeper (PyProof.Rows.envOfC "_law_body" (defScope (top 64)) s.heap.objs.size (adr K 16) cd)) (PyProof.Rows.envOfC "_law_body" (defScope (top 64)) s.heap.objs.size (adr K 16) cd) (cxOf L2.CX0 P w K mg base ["keg", "sides", "own", "depth", "way", "op", "parts", "turn"] "_law_body" (defScope (top 64)) (adr K 16) cd A outer s H L2.E0).xe) :
  PSs (cxOf L2.CX0 P w K mg base ["keg", "sides", "own", "depth", "way", "op", "parts", "turn"] "_law_body" (defScope (top 64)) (adr K 16) cd A outer s H L2.E0) (defBody (top 64)) (tDS K (ca K) (b_u_law_body (callS T k))) :=
    (ss_cons (s_st C (r_if (t_rcmp .gt C r_var r_int) (r_call C (W.f 4) W.g4 W.k4 (r_cons r_var (r_cons r_int r_nil))) r_int))
    (ss_cons (s_if (t_rcmp .eq C r_var r_int) (ss_one (s_rt (r_tup (r_cons r_str (r_cons (r_call C (W.f 16) W.g16 W.k16 (r_cons r_var (r_cons r_var (r_cons r_var (r_cons (r_op .sub r_var r_int) r_nil))))) r_nil))))) ss_nil)
    (ss_cons (s_if (t_rcmp .eq C r_var r_int) (ss_cons (s_setLc [("turn", 7)] C (i_r1 W.n_range (r_call C (W.f 4) W.g4 W.k4 (r_cons r_var (r_cons r_int r_nil)))) (fun _ _ _ _ _ C => (g_name C)) (fun _ _ _ _ _ C => ts_nil) (fun _ _ _ _ _ C => (r_call C (W.f 16) W.g16 W.k16 (r_cons r_var (r_cons r_var (r_cons r_var (r_cons (r_op .sub r_var r_int) r_nil)))))))
    (ss_one (s_rt (r_tup (r_cons (r_call C (W.f 5) W.g5 W.k5 (r_cons r_var (r_cons (r_lst (r_cons r_str (r_cons r_str r_nil))) r_nil))) (r_cons (rb_tuple C W.n_tuple (r_cons r_var r_nil)) r_nil)))))) ss_nil)
    (ss_cons (s_st C (r_call C (W.f 5) W.g5 W.k5 (r_cons r_var (r_cons (r_lst (r_cons r_str (r_cons r_str (r_cons r_str r_nil)))) r_nil))))
    (ss_one (s_rt (r_tup (r_cons r_str (r_cons r_var (r_cons (r_call C (W.f 17) W.g17 W.k17 (r_cons r_var (r_cons r_var (r_cons r_var r_nil)))) (r_cons (r_call C (W.f 17) W.g17 W.k17 (r_cons r_var (r_cons r_var (r_cons r_var r_nil)))) r_nil)))))))))))
/-- u_law_worth -/
theorem w17 (W : Wd P w K mg base k) (A : Around) (outer : List Env) (s : Shared) (H : Hp) (cd : Value) (C : Cok (cxOf L2.CX0 P w K mg base ["keg", "sides", "own", "way", "array", "at"] "_law_worth" (defScope (top 63)) (adr K 17) cd A outer s H L2.E0) (2 * k + 1)) (po : PassesOwn (model P w) (A.deeper (PyProof.Rows.envOfC "_law_worth" (defScope (top 63)) s.heap.objs.size (adr K 17) cd)) (PyProof.Rows.envOfC "_law_worth" (defScope (top 63)) s.heap.objs.size (adr K 17) cd) (cxOf L2.CX0 P w K mg base ["keg", "sides", "own", "way", "array", "at"] "_law_worth" (defScope (top 63)) (adr K 17) cd A outer s H L2.E0).xe) :
  PSs (cxOf L2.CX0 P w K mg base ["keg", "sides", "own", "way", "array", "at"] "_law_worth" (defScope (top 63)) (adr K 17) cd A outer s H L2.E0) (defBody (top 63)) (tDS K (ca K) (b_u_law_worth (callS T k))) :=
    (ss_cons (s_st C (r_call C (W.f 4) W.g4 W.k4 (r_cons r_var (r_cons r_int r_nil))))
    (ss_cons (s_if (t_w (w_or (t_rcmp .eq C r_var r_int) (w_or1 (t_w (w_and (t_rcmp .eq C (r_wk (r_ix C r_var r_int)) (r_tup r_nil)) (w_and1 (t_rcmp .eq C r_var r_int))))))) (ss_one (s_rt (r_tup (r_cons r_str (r_cons (r_call C (W.f 19) W.g19 W.k19 (r_cons r_var r_nil)) r_nil))))) ss_nil)
    (ss_cons (s_if (t_w (w_or (t_rcmp .eq C r_var r_int) (w_or1 (t_rcmp .eq C (r_wk (r_ix C r_var r_int)) (r_tup r_nil))))) (ss_one (s_rt (r_tup (r_cons (r_call C (W.f 5) W.g5 W.k5 (r_cons r_var (r_cons (r_op .add (r_lst (r_cons r_str r_nil)) (rb_list C W.n_list (r_cons (r_ix C r_var r_int) r_nil))) r_nil))) (r_cons (r_call C (W.f 19) W.g19 W.k19 (r_cons r_var r_nil)) r_nil))))) ss_nil)
    (ss_cons (s_p2 C (r_cons (r_ix C (r_call C (W.f 5) W.g5 W.k5 (r_cons r_var (r_cons (r_wk (r_ix C r_var r_int)) r_nil))) r_int) (r_cons (r_call C (W.f 18) W.g18 W.k18 (r_cons r_var (r_cons r_var r_nil))) r_nil)))
    (ss_cons (s_if (t_w (w_and (t_rcmp .ne C r_var (r_tup r_nil)) (w_and1 (t_rcmp .eq C r_var r_int)))) (ss_one (s_st C (r_tup (r_cons (r_call C (W.f 5) W.g5 W.k5 (r_cons r_var (r_cons r_var r_nil))) (r_cons r_int r_nil))))) ss_nil)
    (ss_one (s_rt (r_tup (r_cons r_var (r_cons (r_ix C r_var r_int) (r_cons (r_ix C r_var r_int) (r_cons (r_call C (W.f 19) W.g19 W.k19 (r_cons r_var r_nil)) r_nil))))))))))))
/-- u_law_place -/
theorem w18 (W : Wd P w K mg base k) (A : Around) (outer : List Env) (s : Shared) (H : Hp) (cd : Value) (C : Cok (cxOf L2.CX0 P w K mg base ["keg", "sides"] "_law_place" (defScope (top 62)) (adr K 18) cd A outer s H L2.E0) (2 * k + 1)) (po : PassesOwn (model P w) (A.deeper (PyProof.Rows.envOfC "_law_place" (defScope (top 62)) s.heap.objs.size (adr K 18) cd)) (PyProof.Rows.envOfC "_law_place" (defScope (top 62)) s.heap.objs.size (adr K 18) cd) (cxOf L2.CX0 P w K mg base ["keg", "sides"] "_law_place" (defScope (top 62)) (adr K 18) cd A outer s H L2.E0).xe) :
  PSs (cxOf L2.CX0 P w K mg base ["keg", "sides"] "_law_place" (defScope (top 62)) (adr K 18) cd A outer s H L2.E0) (defBody (top 62)) (tDS K (ca K) (b_u_law_place (callS T k))) :=
    (ss_one (s_rt (r_tup (r_cons (r_call C (W.f 5) W.g5 W.k5 (r_cons r_var (r_cons (r_call C (W.f 20) W.g20 W.k20 (r_cons r_var r_nil)) r_nil))) (r_cons (r_call C (W.f 19) W.g19 W.k19 (r_cons r_var r_nil)) r_nil)))))
/-- u_law_number -/
theorem w19 (W : Wd P w K mg base k) (A : Around) (outer : List Env) (s : Shared) (H : Hp) (cd : Value) (C : Cok (cxOf L2.CX0 P w K mg base ["keg"] "_law_number" (defScope (top 61)) (adr K 19) cd A outer s H L2.E0) (2 * k + 1)) (po : PassesOwn (model P w) (A.deeper (PyProof.Rows.envOfC "_law_number" (defScope (top 61)) s.heap.objs.size (adr K 19) cd)) (PyProof.Rows.envOfC "_law_number" (defScope (top 61)) s.heap.objs.size (adr K 19) cd) (cxOf L2.CX0 P w K mg base ["keg"] "_law_number" (defScope (top 61)) (adr K 19) cd A outer s H L2.E0).xe) :
  PSs (cxOf L2.CX0 P w K mg base ["keg"] "_law_number" (defScope (top 61)) (adr K 19) cd A outer s H L2.E0) (defBody (top 61)) (tDS K (ca K) (b_u_law_number (callS T k))) :=
    (ss_one (s_rt (r_call C (W.f 5) W.g5 W.k5 (r_cons r_var (r_cons (r_lst (r_cons r_int (r_cons r_int (r_cons r_int (r_cons (r_neg r_int) (r_cons r_int (r_cons (r_neg r_int) (r_cons r_int (r_cons (r_op .pow r_int r_int) (r_cons r_int (r_cons r_int r_nil))))))))))) r_nil)))))
/-- u_law_place_names -/
theorem w20 (W : Wd P w K mg base k) (A : Around) (outer : List Env) (s : Shared) (H : Hp) (cd : Value) (C : Cok (cxOf L2.CX0 P w K mg base ["sides", "pair"] "_law_place_names" (defScope (top 60)) (adr K 20) cd A outer s H L2.E0) (2 * k + 1)) (po : PassesOwn (model P w) (A.deeper (PyProof.Rows.envOfC "_law_place_names" (defScope (top 60)) s.heap.objs.size (adr K 20) cd)) (PyProof.Rows.envOfC "_law_place_names" (defScope (top 60)) s.heap.objs.size (adr K 20) cd) (cxOf L2.CX0 P w K mg base ["sides", "pair"] "_law_place_names" (defScope (top 60)) (adr K 20) cd A outer s H L2.E0).xe) :
  PSs (cxOf L2.CX0 P w K mg base ["sides", "pair"] "_law_place_names" (defScope (top 60)) (adr K 20) cd A outer s H L2.E0) (defBody (top 60)) (tDS K (ca K) (b_u_law_place_names (callS T k))) :=
    (ss_one (s_rt (r_op .add (r_op .add (r_lst (r_cons r_str r_nil)) (rb_list C W.n_list (r_cons (r_ix C r_var r_int) r_nil))) (r_sortSet C W.n_sorted W.n_set (r_lc [("pair", 1)] C (i_sq (r_wk (r_ix C r_var r_int))) (fun _ _ _ _ _ C => (g_name C)) (fun _ _ _ _ _ C => ts_nil) (fun _ _ _ _ _ C => (r_ix C r_var r_int)))))))
/-- u_law_guard -/
theorem w21 (W : Wd P w K mg base k) (A : Around) (outer : List Env) (s : Shared) (H : Hp) (cd : Value) (C : Cok (cxOf L2.CX0 P w K mg base ["keg", "sides", "own", "depth", "pair", "parts", "one", "other", "turn"] "_law_guard" (defScope (top 65)) (adr K 21) cd A outer s H L2.E0) (2 * k + 1)) (po : PassesOwn (model P w) (A.deeper (PyProof.Rows.envOfC "_law_guard" (defScope (top 65)) s.heap.objs.size (adr K 21) cd)) (PyProof.Rows.envOfC "_law_guard" (defScope (top 65)) s.heap.objs.size (adr K 21) cd) (cxOf L2.CX0 P w K mg base ["keg", "sides", "own", "depth", "pair", "parts", "one", "other", "turn"] "_law_guard" (defScope (top 65)) (adr K 21) cd A outer s H L2.E0).xe) :
  PSs (cxOf L2.CX0 P w K mg base ["keg", "sides", "own", "depth", "pair", "parts", "one", "other", "turn"] "_law_guard" (defScope (top 65)) (adr K 21) cd A outer s H L2.E0) (defBody (top 65)) (tDS K (ca K) (b_u_law_guard (callS T k))) :=
    (ss_cons (s_if (t_w (w_and (t_rcmp .gt C r_var r_int) (w_and1 (t_rcmp .eq C (r_call C (W.f 4) W.g4 W.k4 (r_cons r_var (r_cons r_int r_nil))) r_int)))) (ss_cons (s_setLc [("turn", 8)] C (i_r1 W.n_range (r_call C (W.f 4) W.g4 W.k4 (r_cons r_var (r_cons r_int r_nil)))) (fun _ _ _ _ _ C => (g_name C)) (fun _ _ _ _ _ C => ts_nil) (fun _ _ _ _ _ C => (r_call C (W.f 21) W.g21 W.k21 (r_cons r_var (r_cons r_var (r_cons r_var (r_cons (r_op .sub r_var r_int) r_nil)))))))
    (ss_one (s_rt (r_tup (r_cons (r_call C (W.f 5) W.g5 W.k5 (r_cons r_var (r_cons (r_lst (r_cons r_str (r_cons r_str (r_cons r_str r_nil)))) r_nil))) (r_cons (rb_tuple C W.n_tuple (r_cons r_var r_nil)) r_nil)))))) ss_nil)
    (ss_cons (s_p2 C (r_cons (r_tup (r_cons (r_call C (W.f 5) W.g5 W.k5 (r_cons r_var (r_cons r_var r_nil))) (r_cons r_int r_nil))) (r_cons (r_call C (W.f 18) W.g18 W.k18 (r_cons r_var (r_cons r_var r_nil))) r_nil)))
    (ss_cons (s_if (t_w (w_and (t_rcmp .gt C (rb_len C W.n_len (r_cons r_var r_nil)) r_int) (w_and1 (t_rcmp .eq C (r_call C (W.f 4) W.g4 W.k4 (r_cons r_var (r_cons r_int r_nil))) r_int)))) (ss_one (s_st C (r_tup (r_cons (r_call C (W.f 5) W.g5 W.k5 (r_cons r_var (r_cons r_var r_nil))) (r_cons r_int r_nil))))) ss_nil)
    (ss_cons (s_st C (r_if (t_rcmp .eq C (r_call C (W.f 4) W.g4 W.k4 (r_cons r_var (r_cons r_int r_nil))) r_int) (r_tup (r_cons r_var (r_cons r_var r_nil))) (r_tup (r_cons r_var (r_cons r_var r_nil)))))
    (ss_one (s_rt (r_op .add (r_tup (r_cons r_str (r_cons (r_call C (W.f 5) W.g5 W.k5 (r_cons r_var (r_cons (r_lst (r_cons r_str (r_cons r_str (r_cons r_str r_nil)))) r_nil))) r_nil))) r_var)))))))
/-- u_law_limits_right -/
theorem w22 (W : Wd P w K mg base k) (A : Around) (outer : List Env) (s : Shared) (H : Hp) (cd : Value) (C : Cok (cxOf L2.CX0 P w K mg base ["keg", "sides", "frame", "value", "turn", "inner", "whole", "more"] "_law_limits_right" (defScope (top 81)) (adr K 22) cd A outer s H L2.E0) (2 * k + 1)) (po : PassesOwn (model P w) (A.deeper (PyProof.Rows.envOfC "_law_limits_right" (defScope (top 81)) s.heap.objs.size (adr K 22) cd)) (PyProof.Rows.envOfC "_law_limits_right" (defScope (top 81)) s.heap.objs.size (adr K 22) cd) (cxOf L2.CX0 P w K mg base ["keg", "sides", "frame", "value", "turn", "inner", "whole", "more"] "_law_limits_right" (defScope (top 81)) (adr K 22) cd A outer s H L2.E0).xe) :
  PSs (cxOf L2.CX0 P w K mg base ["keg", "sides", "frame", "value", "turn", "inner", "whole", "more"] "_law_limits_right" (defScope (top 81)) (adr K 22) cd A outer s H L2.E0) (defBody (top 81)) (tDS K (ca K) (b_u_law_limits_right (callS T k))) :=
    (ss_cons (s_st C (r_call C (W.f 15) W.g15 W.k15 (r_cons r_var (r_cons r_var (r_cons r_int r_nil)))))
    (ss_cons (s_fo C po (i_r1 W.n_range r_int) (g_name C) (ss_cons (s_st C (r_call C (W.f 15) W.g15 W.k15 (r_cons r_var (r_cons r_var (r_cons r_int r_nil)))))
    (ss_one (s_st C (r_call C (W.f 5) W.g5 W.k5 (r_cons r_var (r_cons (r_lst (r_cons (r_tup (r_cons r_str (r_cons r_var r_nil))) (r_cons (r_tup (r_cons r_str (r_cons (r_tup (r_cons r_var (r_cons r_var r_nil))) r_nil))) (r_cons (r_tup (r_cons r_str (r_cons (r_tup (r_cons r_var r_nil)) r_nil))) (r_cons (r_tup (r_cons r_str (r_cons (r_tup (r_cons r_var (r_cons r_var r_nil))) r_nil))) r_nil))))) r_nil)))))))
    (ss_cons (s_if (t_rcmp .ne C (r_lst (r_cons (r_call C (W.f 23) W.g23 W.k23 (r_cons r_var r_nil)) (r_cons (r_call C (W.f 24) W.g24 W.k24 (r_cons r_var (r_cons r_var r_nil))) (r_cons (r_call C (W.f 45) W.g45 W.k45 (r_cons r_var (r_cons r_var r_nil))) r_nil)))) (r_lst (r_cons r_int (r_cons r_bl (r_cons r_int r_nil))))) (ss_one (s_rt r_bl)) ss_nil)
    (ss_cons (s_st C (r_tup (r_cons r_str (r_cons r_str (r_cons (r_tup (r_cons r_str (r_cons r_int r_nil))) (r_cons (r_tup (r_cons r_str (r_cons r_int r_nil))) r_nil))))))
    (ss_cons (s_fo C po (i_r1 W.n_range r_int) (g_name C) (ss_one (s_st C (r_call C (W.f 5) W.g5 W.k5 (r_cons r_var (r_cons (r_lst (r_cons (r_tup (r_cons r_str (r_cons r_var r_nil))) (r_cons (r_tup (r_cons r_str (r_cons (r_tup (r_cons r_var r_nil)) r_nil))) (r_cons (r_tup (r_cons r_str (r_cons (r_tup (r_cons r_var (r_cons r_var r_nil))) r_nil))) r_nil)))) r_nil))))))
    (ss_cons (s_st C (r_tup (r_cons r_str (r_cons (r_tup (r_cons r_str r_nil)) (r_cons (r_tup (r_cons r_str (r_cons (r_tup r_nil) r_nil))) (r_cons r_var r_nil))))))
    (ss_one (s_rt (r_cmp .eq C (r_lst (r_cons (r_call C (W.f 24) W.g24 W.k24 (r_cons r_var (r_cons r_var r_nil))) (r_cons (r_call C (W.f 45) W.g45 W.k45 (r_cons r_var (r_cons r_var r_nil))) r_nil))) (r_lst (r_cons r_bl (r_cons r_int r_nil))))))))))))
/-- u_law_deep -/
theorem w23 (W : Wd P w K mg base k) (A : Around) (outer : List Env) (s : Shared) (H : Hp) (cd : Value) (C : Cok (cxOf L2.CX0 P w K mg base ["value", "parts", "part"] "_law_deep" (defScope (top 80)) (adr K 23) cd A outer s H L2.E0) (2 * k + 1)) (po : PassesOwn (model P w) (A.deeper (PyProof.Rows.envOfC "_law_deep" (defScope (top 80)) s.heap.objs.size (adr K 23) cd)) (PyProof.Rows.envOfC "_law_deep" (defScope (top 80)) s.heap.objs.size (adr K 23) cd) (cxOf L2.CX0 P w K mg base ["value", "parts", "part"] "_law_deep" (defScope (top 80)) (adr K 23) cd A outer s H L2.E0).xe) :
  PSs (cxOf L2.CX0 P w K mg base ["value", "parts", "part"] "_law_deep" (defScope (top 80)) (adr K 23) cd A outer s H L2.E0) (defBody (top 80)) (tDS K (ca K) (b_u_law_deep (callS T k))) :=
    (ss_cons (s_if (t_rcmp .in_ C (r_ix C r_var r_int) (r_lst (r_cons r_str (r_cons r_str r_nil)))) (ss_one (s_rt r_int)) ss_nil)
    (ss_cons (s_st C (r_if (t_rcmp .eq C (r_ix C r_var r_int) r_str) (r_lst (r_cons (r_ix C r_var r_int) r_nil)) (r_if (t_rcmp .eq C (r_ix C r_var r_int) r_str) (rb_list C W.n_list (r_cons (r_sl r_var (r_po r_int) r_po0) r_nil)) (rb_list C W.n_list (r_cons (r_ix C r_var r_int) r_nil)))))
    (ss_one (s_rt (r_op .add r_int (rb_max C W.n_max (r_cons (r_op .add (r_lst (r_cons r_int r_nil)) (r_lc [("part", 2)] C (i_sq r_var) (fun _ _ _ _ _ C => (g_name C)) (fun _ _ _ _ _ C => ts_nil) (fun _ _ _ _ _ C => (r_call C (W.f 23) W.g23 W.k23 (r_cons r_var r_nil))))) r_nil)))))))
/-- is_claim -/
theorem w24 (W : Wd P w K mg base k) (A : Around) (outer : List Env) (s : Shared) (H : Hp) (cd : Value) (C : Cok (cxOf L2.CX0 P w K mg base ["frame", "value"] "is_claim" (defScope (top 44)) (adr K 24) cd A outer s H L2.E0) (2 * k + 1)) (po : PassesOwn (model P w) (A.deeper (PyProof.Rows.envOfC "is_claim" (defScope (top 44)) s.heap.objs.size (adr K 24) cd)) (PyProof.Rows.envOfC "is_claim" (defScope (top 44)) s.heap.objs.size (adr K 24) cd) (cxOf L2.CX0 P w K mg base ["frame", "value"] "is_claim" (defScope (top 44)) (adr K 24) cd A outer s H L2.E0).xe) :
  PSs (cxOf L2.CX0 P w K mg base ["frame", "value"] "is_claim" (defScope (top 44)) (adr K 24) cd A outer s H L2.E0) (defBody (top 44)) (tDS K (ca K) (b_is_claim (callS T k))) :=
    (ss_cons (s_ex (r_call C (W.f 25) W.g25 W.k25 (r_cons r_var r_nil)))
    (ss_one (s_rt (r_call C (W.f 26) W.g26 W.k26 (r_cons r_var (r_cons r_var r_nil))))))
/-- require_frame -/
theorem w25 (W : Wd P w K mg base k) (A : Around) (outer : List Env) (s : Shared) (H : Hp) (cd : Value) (C : Cok (cxOf L2.CX0 P w K mg base ["value"] "require_frame" (defScope (top 20)) (adr K 25) cd A outer s H L2.E0) (2 * k + 1)) (po : PassesOwn (model P w) (A.deeper (PyProof.Rows.envOfC "require_frame" (defScope (top 20)) s.heap.objs.size (adr K 25) cd)) (PyProof.Rows.envOfC "require_frame" (defScope (top 20)) s.heap.objs.size (adr K 25) cd) (cxOf L2.CX0 P w K mg base ["value"] "require_frame" (defScope (top 20)) (adr K 25) cd A outer s H L2.E0).xe) :
  PSs (cxOf L2.CX0 P w K mg base ["value"] "require_frame" (defScope (top 20)) (adr K 25) cd A outer s H L2.E0) (defBody (top 20)) (tDS K (ca K) (b_require_frame (callS T k))) :=
    (ss_one (s_if (t_not (t_tst (r_isO W.n_isinstance W.gc_Frame W.s_Frame W.i_Frame r_var))) (ss_one s_no) ss_nil))
/-- is_claim_for -/
theorem w26 (W : Wd P w K mg base k) (A : Around) (outer : List Env) (s : Shared) (H : Hp) (cd : Value) (C : Cok (cxOf L2.CX0 P w K mg base ["frame", "value"] "is_claim_for" (defScope (top 39)) (adr K 26) cd A outer s H L2.E0) (2 * k + 1)) (po : PassesOwn (model P w) (A.deeper (PyProof.Rows.envOfC "is_claim_for" (defScope (top 39)) s.heap.objs.size (adr K 26) cd)) (PyProof.Rows.envOfC "is_claim_for" (defScope (top 39)) s.heap.objs.size (adr K 26) cd) (cxOf L2.CX0 P w K mg base ["frame", "value"] "is_claim_for" (defScope (top 39)) (adr K 26) cd A outer s H L2.E0).xe) :
  PSs (cxOf L2.CX0 P w K mg base ["frame", "value"] "is_claim_for" (defScope (top 39)) (adr K 26) cd A outer s H L2.E0) (defBody (top 39)) (tDS K (ca K) (b_is_claim_for (callS T k))) :=
    (ss_one (s_rt (r_call C (W.f 27) W.g27 W.k27 (r_cons r_var (r_cons r_var (r_cons (r_gint W.c_MAX_DEPTH) r_nil))))))
/-- is_claim_in -/
theorem w27 (W : Wd P w K mg base k) (A : Around) (outer : List Env) (s : Shared) (H : Hp) (cd : Value) (C : Cok (cxOf L2.CX0 P w K mg base ["frame", "value", "left", "part"] "is_claim_in" (defScope (top 38)) (adr K 27) cd A outer s H L2.E0) (2 * k + 1)) (po : PassesOwn (model P w) (A.deeper (PyProof.Rows.envOfC "is_claim_in" (defScope (top 38)) s.heap.objs.size (adr K 27) cd)) (PyProof.Rows.envOfC "is_claim_in" (defScope (top 38)) s.heap.objs.size (adr K 27) cd) (cxOf L2.CX0 P w K mg base ["frame", "value", "left", "part"] "is_claim_in" (defScope (top 38)) (adr K 27) cd A outer s H L2.E0).xe) :
  PSs (cxOf L2.CX0 P w K mg base ["frame", "value", "left", "part"] "is_claim_in" (defScope (top 38)) (adr K 27) cd A outer s H L2.E0) (defBody (top 38)) (tDS K (ca K) (b_is_claim_in (callS T k))) :=
    (ss_cons (s_if (t_rcmp .eq C r_var r_int) (ss_one (s_rt r_bl)) ss_nil)
    (ss_cons (s_if (t_tst (r_call C (W.f 28) W.g28 W.k28 (r_cons r_var r_nil))) (ss_one (s_rt (rb_all C W.n_all (r_cons (r_lc [("part", 3)] C (i_sq (r_ix C r_var r_int)) (fun _ _ _ _ _ C => (g_name C)) (fun _ _ _ _ _ C => ts_nil) (fun _ _ _ _ _ C => (r_call C (W.f 27) W.g27 W.k27 (r_cons r_var (r_cons r_var (r_cons (r_op .sub r_var r_int) r_nil)))))) r_nil)))) ss_nil)
    (ss_cons (s_if (t_tst (r_call C (W.f 29) W.g29 W.k29 (r_cons r_var (r_cons r_str (r_cons r_int r_nil))))) (ss_one (s_rt (r_call C (W.f 27) W.g27 W.k27 (r_cons r_var (r_cons (r_ix C r_var r_int) (r_cons (r_op .sub r_var r_int) r_nil)))))) ss_nil)
    (ss_cons (s_if (t_tst (r_call C (W.f 29) W.g29 W.k29 (r_cons r_var (r_cons r_str (r_cons r_int r_nil))))) (ss_one (s_rt (r_call C (W.f 30) W.g30 W.k30 (r_cons r_var (r_cons r_var (r_cons r_var r_nil)))))) ss_nil)
    (ss_cons (s_if (t_tst (r_call C (W.f 29) W.g29 W.k29 (r_cons r_var (r_cons r_str (r_cons r_int r_nil))))) (ss_one (s_rt (r_and (r_call C (W.f 34) W.g34 W.k34 (r_cons (r_ix C r_var r_int) (r_cons (r_gval (v := .ref (He.ga K "OPS")) W.c_OPS rfl W.d_OPS) r_nil))) (r_and (r_call C (W.f 36) W.g36 W.k36 (r_cons r_var (r_cons (r_ix C r_var r_int) r_nil))) (r_and1 (r_call C (W.f 36) W.g36 W.k36 (r_cons r_var (r_cons (r_ix C r_var r_int) r_nil)))))))) ss_nil)
    (ss_cons (s_if (t_tst (r_call C (W.f 29) W.g29 W.k29 (r_cons r_var (r_cons r_str (r_cons r_int r_nil))))) (ss_one (s_rt (r_and (r_call C (W.f 34) W.g34 W.k34 (r_cons (r_ix C r_var r_int) (r_cons (r_gval (v := .ref (He.ga K "OPS")) W.c_OPS rfl W.d_OPS) r_nil))) (r_and (r_call C (W.f 43) W.g43 W.k43 (r_cons r_var (r_cons (r_ix C r_var r_int) r_nil))) (r_and1 (r_call C (W.f 43) W.g43 W.k43 (r_cons r_var (r_cons (r_ix C r_var r_int) r_nil)))))))) ss_nil)
    (ss_one (s_rt r_bl))))))))
/-- is_joined -/
theorem w28 (W : Wd P w K mg base k) (A : Around) (outer : List Env) (s : Shared) (H : Hp) (cd : Value) (C : Cok (cxOf L2.CX0 P w K mg base ["value"] "is_joined" (defScope (top 30)) (adr K 28) cd A outer s H L2.E0) (2 * k + 1)) (po : PassesOwn (model P w) (A.deeper (PyProof.Rows.envOfC "is_joined" (defScope (top 30)) s.heap.objs.size (adr K 28) cd)) (PyProof.Rows.envOfC "is_joined" (defScope (top 30)) s.heap.objs.size (adr K 28) cd) (cxOf L2.CX0 P w K mg base ["value"] "is_joined" (defScope (top 30)) (adr K 28) cd A outer s H L2.E0).xe) :
  PSs (cxOf L2.CX0 P w K mg base ["value"] "is_joined" (defScope (top 30)) (adr K 28) cd A outer s H L2.E0) (defBody (top 30)) (tDS K (ca K) (b_is_joined (callS T k))) :=
    (ss_one (s_rt (r_and (r_or (r_call C (W.f 29) W.g29 W.k29 (r_cons r_var (r_cons r_str (r_cons r_int r_nil)))) (r_or1 (r_call C (W.f 29) W.g29 W.k29 (r_cons r_var (r_cons r_str (r_cons r_int r_nil)))))) (r_and1 (ri_tuple W.n_isinstance W.n_tuple (r_ix C r_var r_int))))))
/-- has_shape -/
theorem w29 (W : Wd P w K mg base k) (A : Around) (outer : List Env) (s : Shared) (H : Hp) (cd : Value) (C : Cok (cxOf L2.CX0 P w K mg base ["value", "kind", "size"] "has_shape" (defScope (top 29)) (adr K 29) cd A outer s H L2.E0) (2 * k + 1)) (po : PassesOwn (model P w) (A.deeper (PyProof.Rows.envOfC "has_shape" (defScope (top 29)) s.heap.objs.size (adr K 29) cd)) (PyProof.Rows.envOfC "has_shape" (defScope (top 29)) s.heap.objs.size (adr K 29) cd) (cxOf L2.CX0 P w K mg base ["value", "kind", "size"] "has_shape" (defScope (top 29)) (adr K 29) cd A outer s H L2.E0).xe) :
  PSs (cxOf L2.CX0 P w K mg base ["value", "kind", "size"] "has_shape" (defScope (top 29)) (adr K 29) cd A outer s H L2.E0) (defBody (top 29)) (tDS K (ca K) (b_has_shape (callS T k))) :=
    (ss_one (s_rt (r_and (ri_tuple W.n_isinstance W.n_tuple r_var) (r_and (r_cmp .eq C (rb_len C W.n_len (r_cons r_var r_nil)) r_var) (r_and (ri_str W.n_isinstance W.n_str (r_ix C r_var r_int)) (r_and1 (r_cmp .eq C (r_ix C r_var r_int) r_var)))))))
/-- is_all_in -/
theorem w30 (W : Wd P w K mg base k) (A : Around) (outer : List Env) (s : Shared) (H : Hp) (cd : Value) (C : Cok (cxOf L2.CX0 P w K mg base ["frame", "value", "left", "own"] "is_all_in" (defScope (top 37)) (adr K 30) cd A outer s H L2.E0) (2 * k + 1)) (po : PassesOwn (model P w) (A.deeper (PyProof.Rows.envOfC "is_all_in" (defScope (top 37)) s.heap.objs.size (adr K 30) cd)) (PyProof.Rows.envOfC "is_all_in" (defScope (top 37)) s.heap.objs.size (adr K 30) cd) (cxOf L2.CX0 P w K mg base ["frame", "value", "left", "own"] "is_all_in" (defScope (top 37)) (adr K 30) cd A outer s H L2.E0).xe) :
  PSs (cxOf L2.CX0 P w K mg base ["frame", "value", "left", "own"] "is_all_in" (defScope (top 37)) (adr K 30) cd A outer s H L2.E0) (defBody (top 37)) (tDS K (ca K) (b_is_all_in (callS T k))) :=
    (ss_cons (s_st C (r_ix C r_var r_int))
    (ss_cons (s_if (t_not (t_tst (r_call C (W.f 31) W.g31 W.k31 (r_cons r_var (r_cons r_var r_nil))))) (ss_one (s_rt r_bl)) ss_nil)
    (ss_one (s_rt (r_and (r_call C (W.f 33) W.g33 W.k33 (r_cons r_var (r_cons r_var (r_cons (r_ix C r_var r_int) (r_cons (r_op .sub r_var r_int) r_nil))))) (r_and1 (r_call C (W.f 41) W.g41 W.k41 (r_cons r_var (r_cons r_var (r_cons (r_ix C r_var r_int) (r_cons (r_op .sub r_var r_int) r_nil)))))))))))
/-- are_own -/
theorem w31 (W : Wd P w K mg base k) (A : Around) (outer : List Env) (s : Shared) (H : Hp) (cd : Value) (C : Cok (cxOf L2.CX0 P w K mg base ["frame", "value", "name"] "are_own" (defScope (top 32)) (adr K 31) cd A outer s H L2.E0) (2 * k + 1)) (po : PassesOwn (model P w) (A.deeper (PyProof.Rows.envOfC "are_own" (defScope (top 32)) s.heap.objs.size (adr K 31) cd)) (PyProof.Rows.envOfC "are_own" (defScope (top 32)) s.heap.objs.size (adr K 31) cd) (cxOf L2.CX0 P w K mg base ["frame", "value", "name"] "are_own" (defScope (top 32)) (adr K 31) cd A outer s H L2.E0).xe) :
  PSs (cxOf L2.CX0 P w K mg base ["frame", "value", "name"] "are_own" (defScope (top 32)) (adr K 31) cd A outer s H L2.E0) (defBody (top 32)) (tDS K (ca K) (b_are_own (callS T k))) :=
    (ss_cons (s_if (t_w (w_or (t_not (t_tst (ri_tuple W.n_isinstance W.n_tuple r_var))) (w_or1 (t_not (t_chain' .le .le C r_int (rb_len C W.n_len (r_cons r_var r_nil)) r_int))))) (ss_one (s_rt r_bl)) ss_nil)
    (ss_one (s_rt (r_and (rb_all C W.n_all (r_cons (r_lc [("name", 2)] C (i_sq r_var) (fun _ _ _ _ _ C => (g_name C)) (fun _ _ _ _ _ C => ts_nil) (fun _ _ _ _ _ C => (r_meth C W.s_Frame W.m_Frame_is_fresh (W.f 32) r_var (r_cons r_var r_nil) rfl))) r_nil)) (r_and1 (r_cmp .eq C (r_lenSet C W.n_len W.n_set r_var) (rb_len C W.n_len (r_cons r_var r_nil))))))))
/-- Frame_is_fresh -/
theorem w32 (W : Wd P w K mg base k) (A : Around) (outer : List Env) (s : Shared) (H : Hp) (cd : Value) (C : Cok (cxOf L2.CX0 P w K mg base ["self", "value"] "Frame.is_fresh" (defScope (mth 18 8)) (adr K 32) cd A outer s H L2.E0) (2 * k + 1)) (po : PassesOwn (model P w) (A.deeper (PyProof.Rows.envOfC "Frame.is_fresh" (defScope (mth 18 8)) s.heap.objs.size (adr K 32) cd)) (PyProof.Rows.envOfC "Frame.is_fresh" (defScope (mth 18 8)) s.heap.objs.size (adr K 32) cd) (cxOf L2.CX0 P w K mg base ["self", "value"] "Frame.is_fresh" (defScope (mth 18 8)) (adr K 32) cd A outer s H L2.E0).xe) :
  PSs (cxOf L2.CX0 P w K mg base ["self", "value"] "Frame.is_fresh" (defScope (mth 18 8)) (adr K 32) cd A outer s H L2.E0) (defBody (mth 18 8)) (tDS K (ca K) (b_Frame_is_fresh (callS T k))) :=
    (ss_one (s_rt (r_and (r_call C (W.f 11) W.g11 W.k11 (r_cons r_var r_nil)) (r_and1 (r_cmp .notIn C r_var (r_fld W.s_Frame W.s_Frame_own_kinds r_var))))))
/-- is_guard_in -/
theorem w33 (W : Wd P w K mg base k) (A : Around) (outer : List Env) (s : Shared) (H : Hp) (cd : Value) (C : Cok (cxOf L2.CX0 P w K mg base ["frame", "own", "value", "left", "part"] "is_guard_in" (defScope (top 35)) (adr K 33) cd A outer s H L2.E0) (2 * k + 1)) (po : PassesOwn (model P w) (A.deeper (PyProof.Rows.envOfC "is_guard_in" (defScope (top 35)) s.heap.objs.size (adr K 33) cd)) (PyProof.Rows.envOfC "is_guard_in" (defScope (top 35)) s.heap.objs.size (adr K 33) cd) (cxOf L2.CX0 P w K mg base ["frame", "own", "value", "left", "part"] "is_guard_in" (defScope (top 35)) (adr K 33) cd A outer s H L2.E0).xe) :
  PSs (cxOf L2.CX0 P w K mg base ["frame", "own", "value", "left", "part"] "is_guard_in" (defScope (top 35)) (adr K 33) cd A outer s H L2.E0) (defBody (top 35)) (tDS K (ca K) (b_is_guard_in (callS T k))) :=
    (ss_cons (s_if (t_rcmp .eq C r_var r_int) (ss_one (s_rt r_bl)) ss_nil)
    (ss_cons (s_if (t_tst (r_call C (W.f 28) W.g28 W.k28 (r_cons r_var r_nil))) (ss_one (s_rt (rb_all C W.n_all (r_cons (r_lc [("part", 4)] C (i_sq (r_ix C r_var r_int)) (fun _ _ _ _ _ C => (g_name C)) (fun _ _ _ _ _ C => ts_nil) (fun _ _ _ _ _ C => (r_call C (W.f 33) W.g33 W.k33 (r_cons r_var (r_cons r_var (r_cons r_var (r_cons (r_op .sub r_var r_int) r_nil))))))) r_nil)))) ss_nil)
    (ss_cons (s_if (t_w (w_or (t_not (t_tst (r_call C (W.f 29) W.g29 W.k29 (r_cons r_var (r_cons r_str (r_cons r_int r_nil)))))) (w_or1 (t_not (t_tst (r_call C (W.f 34) W.g34 W.k34 (r_cons (r_ix C r_var r_int) (r_cons (r_gval (v := .ref (He.ga K "GUARD_OPS")) W.c_GUARD_OPS rfl W.d_GUARD_OPS) r_nil)))))))) (ss_one (s_rt r_bl)) ss_nil)
    (ss_cons (s_if (t_w (w_or (t_not (t_tst (r_call C (W.f 35) W.g35 W.k35 (r_cons r_var (r_cons r_var (r_cons (r_ix C r_var r_int) r_nil)))))) (w_or1 (t_not (t_tst (r_call C (W.f 35) W.g35 W.k35 (r_cons r_var (r_cons r_var (r_cons (r_ix C r_var r_int) r_nil))))))))) (ss_one (s_rt r_bl)) ss_nil)
    (ss_one (s_rt (r_or (r_cmp .in_ C (r_ix C (r_ix C r_var r_int) r_int) r_var) (r_or1 (r_cmp .in_ C (r_ix C (r_ix C r_var r_int) r_int) r_var)))))))))
/-- is_op -/
theorem w34 (W : Wd P w K mg base k) (A : Around) (outer : List Env) (s : Shared) (H : Hp) (cd : Value) (C : Cok (cxOf L2.CX0 P w K mg base ["value", "ops"] "is_op" (defScope (top 31)) (adr K 34) cd A outer s H L2.E0) (2 * k + 1)) (po : PassesOwn (model P w) (A.deeper (PyProof.Rows.envOfC "is_op" (defScope (top 31)) s.heap.objs.size (adr K 34) cd)) (PyProof.Rows.envOfC "is_op" (defScope (top 31)) s.heap.objs.size (adr K 34) cd) (cxOf L2.CX0 P w K mg base ["value", "ops"] "is_op" (defScope (top 31)) (adr K 34) cd A outer s H L2.E0).xe) :
  PSs (cxOf L2.CX0 P w K mg base ["value", "ops"] "is_op" (defScope (top 31)) (adr K 34) cd A outer s H L2.E0) (defBody (top 31)) (tDS K (ca K) (b_is_op (callS T k))) :=
    (ss_one (s_rt (r_and (ri_str W.n_isinstance W.n_str r_var) (r_and1 (r_cmp .in_ C r_var r_var)))))
/-- is_guard_term -/
theorem w35 (W : Wd P w K mg base k) (A : Around) (outer : List Env) (s : Shared) (H : Hp) (cd : Value) (C : Cok (cxOf L2.CX0 P w K mg base ["frame", "own", "value"] "is_guard_term" (defScope (top 33)) (adr K 35) cd A outer s H L2.E0) (2 * k + 1)) (po : PassesOwn (model P w) (A.deeper (PyProof.Rows.envOfC "is_guard_term" (defScope (top 33)) s.heap.objs.size (adr K 35) cd)) (PyProof.Rows.envOfC "is_guard_term" (defScope (top 33)) s.heap.objs.size (adr K 35) cd) (cxOf L2.CX0 P w K mg base ["frame", "own", "value"] "is_guard_term" (defScope (top 33)) (adr K 35) cd A outer s H L2.E0).xe) :
  PSs (cxOf L2.CX0 P w K mg base ["frame", "own", "value"] "is_guard_term" (defScope (top 33)) (adr K 35) cd A outer s H L2.E0) (defBody (top 33)) (tDS K (ca K) (b_is_guard_term (callS T k))) :=
    (ss_one (s_rt (r_and (r_call C (W.f 36) W.g36 W.k36 (r_cons r_var (r_cons r_var (r_cons r_var r_nil)))) (r_and1 (r_or (r_cmp .notIn C (r_ix C r_var r_int) r_var) (r_or1 (r_cmp .eq C (r_ix C r_var r_int) r_int)))))))
/-- is_position -/
theorem w36 (W : Wd P w K mg base k) (A : Around) (outer : List Env) (s : Shared) (H : Hp) (cd : Value) (C : Cok (cxOf L2.CX0 P w K mg base ["frame", "value", "own"] "is_position" (defScope (top 22)) (adr K 36) cd A outer s H L2.E0) (2 * k + 1)) (po : PassesOwn (model P w) (A.deeper (PyProof.Rows.envOfC "is_position" (defScope (top 22)) s.heap.objs.size (adr K 36) cd)) (PyProof.Rows.envOfC "is_position" (defScope (top 22)) s.heap.objs.size (adr K 36) cd) (cxOf L2.CX0 P w K mg base ["frame", "value", "own"] "is_position" (defScope (top 22)) (adr K 36) cd A outer s H L2.E0).xe) :
  PSs (cxOf L2.CX0 P w K mg base ["frame", "value", "own"] "is_position" (defScope (top 22)) (adr K 36) cd A outer s H L2.E0) (defBody (top 22)) (tDS K (ca K) (b_is_position (callS T k))) :=
    (ss_cons (s_if (t_w (w_or (t_not (t_tst (ri_tuple W.n_isinstance W.n_tuple r_var))) (w_or1 (t_rcmp .ne C (rb_len C W.n_len (r_cons r_var r_nil)) r_int)))) (ss_one (s_rt r_bl)) ss_nil)
    (ss_one (s_rt (r_and (r_call C (W.f 37) W.g37 W.k37 (r_cons r_var (r_cons (r_ix C r_var r_int) (r_cons r_var r_nil)))) (r_and1 (r_call C (W.f 40) W.g40 W.k40 (r_cons (r_ix C r_var r_int) r_nil)))))))
/-- is_place_name -/
theorem w37 (W : Wd P w K mg base k) (A : Around) (outer : List Env) (s : Shared) (H : Hp) (cd : Value) (C : Cok (cxOf L2.CX0 P w K mg base ["frame", "value", "own"] "is_place_name" (defScope (top 21)) (adr K 37) cd A outer s H L2.E0) (2 * k + 1)) (po : PassesOwn (model P w) (A.deeper (PyProof.Rows.envOfC "is_place_name" (defScope (top 21)) s.heap.objs.size (adr K 37) cd)) (PyProof.Rows.envOfC "is_place_name" (defScope (top 21)) s.heap.objs.size (adr K 37) cd) (cxOf L2.CX0 P w K mg base ["frame", "value", "own"] "is_place_name" (defScope (top 21)) (adr K 37) cd A outer s H L2.E0).xe) :
  PSs (cxOf L2.CX0 P w K mg base ["frame", "value", "own"] "is_place_name" (defScope (top 21)) (adr K 37) cd A outer s H L2.E0) (defBody (top 21)) (tDS K (ca K) (b_is_place_name (callS T k))) :=
    (ss_cons (s_if (t_not (t_tst (ri_str W.n_isinstance W.n_str r_var))) (ss_one (s_rt r_bl)) ss_nil)
    (ss_one (s_rt (r_or (r_cmp .eq C r_var r_str) (r_or (r_cmp .in_ C r_var r_var) (r_or (r_call C (W.f 38) W.g38 W.k38 (r_cons r_var (r_cons r_var (r_cons r_str r_nil)))) (r_or1 (r_call C (W.f 38) W.g38 W.k38 (r_cons r_var (r_cons r_var (r_cons r_str r_nil)))))))))))
/-- has_kind -/
theorem w38 (W : Wd P w K mg base k) (A : Around) (outer : List Env) (s : Shared) (H : Hp) (cd : Value) (C : Cok (cxOf L2.CX0 P w K mg base ["frame", "name", "kind"] "has_kind" (defScope (top 19)) (adr K 38) cd A outer s H L2.E0) (2 * k + 1)) (po : PassesOwn (model P w) (A.deeper (PyProof.Rows.envOfC "has_kind" (defScope (top 19)) s.heap.objs.size (adr K 38) cd)) (PyProof.Rows.envOfC "has_kind" (defScope (top 19)) s.heap.objs.size (adr K 38) cd) (cxOf L2.CX0 P w K mg base ["frame", "name", "kind"] "has_kind" (defScope (top 19)) (adr K 38) cd A outer s H L2.E0).xe) :
  PSs (cxOf L2.CX0 P w K mg base ["frame", "name", "kind"] "has_kind" (defScope (top 19)) (adr K 38) cd A outer s H L2.E0) (defBody (top 19)) (tDS K (ca K) (b_has_kind (callS T k))) :=
    (ss_one (s_rt (r_and (r_in C W.h_Frame W.t_Frame (W.f 39) r_var r_var) (r_and1 (r_cmp .eq C (r_ix C (r_fld W.s_Frame W.s_Frame_own_kinds r_var) r_var) r_var)))))
/-- Frame_contains -/
theorem w39 (W : Wd P w K mg base k) (A : Around) (outer : List Env) (s : Shared) (H : Hp) (cd : Value) (C : Cok (cxOf L2.CX0 P w K mg base ["self", "value"] "Frame.__contains__" (defScope (mth 18 14)) (adr K 39) cd A outer s H L2.E0) (2 * k + 1)) (po : PassesOwn (model P w) (A.deeper (PyProof.Rows.envOfC "Frame.__contains__" (defScope (mth 18 14)) s.heap.objs.size (adr K 39) cd)) (PyProof.Rows.envOfC "Frame.__contains__" (defScope (mth 18 14)) s.heap.objs.size (adr K 39) cd) (cxOf L2.CX0 P w K mg base ["self", "value"] "Frame.__contains__" (defScope (mth 18 14)) (adr K 39) cd A outer s H L2.E0).xe) :
  PSs (cxOf L2.CX0 P w K mg base ["self", "value"] "Frame.__contains__" (defScope (mth 18 14)) (adr K 39) cd A outer s H L2.E0) (defBody (mth 18 14)) (tDS K (ca K) (b_Frame_contains (callS T k))) :=
    (ss_one (s_rt (r_and (ri_str W.n_isinstance W.n_str r_var) (r_and1 (r_cmp .in_ C r_var (r_fld W.s_Frame W.s_Frame_own_kinds r_var))))))
/-- is_integer -/
theorem w40 (W : Wd P w K mg base k) (A : Around) (outer : List Env) (s : Shared) (H : Hp) (cd : Value) (C : Cok (cxOf L2.CX0 P w K mg base ["value"] "is_integer" (defScope (top 12)) (adr K 40) cd A outer s H L2.E0) (2 * k + 1)) (po : PassesOwn (model P w) (A.deeper (PyProof.Rows.envOfC "is_integer" (defScope (top 12)) s.heap.objs.size (adr K 40) cd)) (PyProof.Rows.envOfC "is_integer" (defScope (top 12)) s.heap.objs.size (adr K 40) cd) (cxOf L2.CX0 P w K mg base ["value"] "is_integer" (defScope (top 12)) (adr K 40) cd A outer s H L2.E0).xe) :
  PSs (cxOf L2.CX0 P w K mg base ["value"] "is_integer" (defScope (top 12)) (adr K 40) cd A outer s H L2.E0) (defBody (top 12)) (tDS K (ca K) (b_is_integer (callS T k))) :=
    (ss_one (s_rt (r_and (ri_int W.n_isinstance W.n_int r_var) (r_and (r_not (ri_bool W.n_isinstance W.n_bool r_var)) (r_and1 (r_chain .lt .lt C (r_neg (r_gint W.c_GREATEST)) r_var (r_gint W.c_GREATEST)))))))
/-- is_body_in -/
theorem w41 (W : Wd P w K mg base k) (A : Around) (outer : List Env) (s : Shared) (H : Hp) (cd : Value) (C : Cok (cxOf L2.CX0 P w K mg base ["frame", "own", "value", "left", "part"] "is_body_in" (defScope (top 36)) (adr K 41) cd A outer s H L2.E0) (2 * k + 1)) (po : PassesOwn (model P w) (A.deeper (PyProof.Rows.envOfC "is_body_in" (defScope (top 36)) s.heap.objs.size (adr K 41) cd)) (PyProof.Rows.envOfC "is_body_in" (defScope (top 36)) s.heap.objs.size (adr K 41) cd) (cxOf L2.CX0 P w K mg base ["frame", "own", "value", "left", "part"] "is_body_in" (defScope (top 36)) (adr K 41) cd A outer s H L2.E0).xe) :
  PSs (cxOf L2.CX0 P w K mg base ["frame", "own", "value", "left", "part"] "is_body_in" (defScope (top 36)) (adr K 41) cd A outer s H L2.E0) (defBody (top 36)) (tDS K (ca K) (b_is_body_in (callS T k))) :=
    (ss_cons (s_if (t_rcmp .eq C r_var r_int) (ss_one (s_rt r_bl)) ss_nil)
    (ss_cons (s_if (t_tst (r_call C (W.f 28) W.g28 W.k28 (r_cons r_var r_nil))) (ss_one (s_rt (rb_all C W.n_all (r_cons (r_lc [("part", 4)] C (i_sq (r_ix C r_var r_int)) (fun _ _ _ _ _ C => (g_name C)) (fun _ _ _ _ _ C => ts_nil) (fun _ _ _ _ _ C => (r_call C (W.f 41) W.g41 W.k41 (r_cons r_var (r_cons r_var (r_cons r_var (r_cons (r_op .sub r_var r_int) r_nil))))))) r_nil)))) ss_nil)
    (ss_cons (s_if (t_tst (r_call C (W.f 29) W.g29 W.k29 (r_cons r_var (r_cons r_str (r_cons r_int r_nil))))) (ss_one (s_rt (r_call C (W.f 41) W.g41 W.k41 (r_cons r_var (r_cons r_var (r_cons (r_ix C r_var r_int) (r_cons (r_op .sub r_var r_int) r_nil))))))) ss_nil)
    (ss_cons (s_if (t_w (w_or (t_not (t_tst (r_call C (W.f 29) W.g29 W.k29 (r_cons r_var (r_cons r_str (r_cons r_int r_nil)))))) (w_or1 (t_not (t_tst (r_call C (W.f 34) W.g34 W.k34 (r_cons (r_ix C r_var r_int) (r_cons (r_gval (v := .ref (He.ga K "OPS")) W.c_OPS rfl W.d_OPS) r_nil)))))))) (ss_one (s_rt r_bl)) ss_nil)
    (ss_one (s_rt (r_and (r_call C (W.f 42) W.g42 W.k42 (r_cons r_var (r_cons r_var (r_cons (r_ix C r_var r_int) r_nil)))) (r_and1 (r_call C (W.f 42) W.g42 W.k42 (r_cons r_var (r_cons r_var (r_cons (r_ix C r_var r_int) r_nil))))))))))))
/-- is_body_term -/
theorem w42 (W : Wd P w K mg base k) (A : Around) (outer : List Env) (s : Shared) (H : Hp) (cd : Value) (C : Cok (cxOf L2.CX0 P w K mg base ["frame", "own", "value"] "is_body_term" (defScope (top 34)) (adr K 42) cd A outer s H L2.E0) (2 * k + 1)) (po : PassesOwn (model P w) (A.deeper (PyProof.Rows.envOfC "is_body_term" (defScope (top 34)) s.heap.objs.size (adr K 42) cd)) (PyProof.Rows.envOfC "is_body_term" (defScope (top 34)) s.heap.objs.size (adr K 42) cd) (cxOf L2.CX0 P w K mg base ["frame", "own", "value"] "is_body_term" (defScope (top 34)) (adr K 42) cd A outer s H L2.E0).xe) :
  PSs (cxOf L2.CX0 P w K mg base ["frame", "own", "value"] "is_body_term" (defScope (top 34)) (adr K 42) cd A outer s H L2.E0) (defBody (top 34)) (tDS K (ca K) (b_is_body_term (callS T k))) :=
    (ss_one (s_rt (r_and (r_call C (W.f 43) W.g43 W.k43 (r_cons r_var (r_cons r_var (r_cons r_var r_nil)))) (r_and1 (r_or (r_cmp .eq C (rb_len C W.n_len (r_cons r_var r_nil)) r_int) (r_or (r_cmp .notIn C (r_ix C r_var r_int) r_var) (r_or1 (r_cmp .eq C (r_ix C r_var r_int) r_int))))))))
/-- is_value -/
theorem w43 (W : Wd P w K mg base k) (A : Around) (outer : List Env) (s : Shared) (H : Hp) (cd : Value) (C : Cok (cxOf L2.CX0 P w K mg base ["frame", "value", "own"] "is_value" (defScope (top 24)) (adr K 43) cd A outer s H L2.E0) (2 * k + 1)) (po : PassesOwn (model P w) (A.deeper (PyProof.Rows.envOfC "is_value" (defScope (top 24)) s.heap.objs.size (adr K 43) cd)) (PyProof.Rows.envOfC "is_value" (defScope (top 24)) s.heap.objs.size (adr K 43) cd) (cxOf L2.CX0 P w K mg base ["frame", "value", "own"] "is_value" (defScope (top 24)) (adr K 43) cd A outer s H L2.E0).xe) :
  PSs (cxOf L2.CX0 P w K mg base ["frame", "value", "own"] "is_value" (defScope (top 24)) (adr K 43) cd A outer s H L2.E0) (defBody (top 24)) (tDS K (ca K) (b_is_value (callS T k))) :=
    (ss_cons (s_if (t_tst (r_call C (W.f 44) W.g44 W.k44 (r_cons r_var (r_cons r_var (r_cons r_var r_nil))))) (ss_one (s_rt r_bl)) ss_nil)
    (ss_cons (s_if (t_w (w_or (t_not (t_tst (ri_tuple W.n_isinstance W.n_tuple r_var))) (w_or (t_rcmp .ne C (rb_len C W.n_len (r_cons r_var r_nil)) r_int) (w_or1 (t_not (t_tst (ri_str W.n_isinstance W.n_str (r_ix C r_var r_int)))))))) (ss_one (s_rt r_bl)) ss_nil)
    (ss_one (s_rt (r_and (r_or (r_cmp .eq C (r_ix C r_var r_int) r_str) (r_or1 (r_call C (W.f 38) W.g38 W.k38 (r_cons r_var (r_cons (r_ix C r_var r_int) (r_cons r_str r_nil)))))) (r_and1 (r_call C (W.f 40) W.g40 W.k40 (r_cons (r_ix C r_var r_int) r_nil))))))))
/-- is_cell -/
theorem w44 (W : Wd P w K mg base k) (A : Around) (outer : List Env) (s : Shared) (H : Hp) (cd : Value) (C : Cok (cxOf L2.CX0 P w K mg base ["frame", "value", "own"] "is_cell" (defScope (top 23)) (adr K 44) cd A outer s H L2.E0) (2 * k + 1)) (po : PassesOwn (model P w) (A.deeper (PyProof.Rows.envOfC "is_cell" (defScope (top 23)) s.heap.objs.size (adr K 44) cd)) (PyProof.Rows.envOfC "is_cell" (defScope (top 23)) s.heap.objs.size (adr K 44) cd) (cxOf L2.CX0 P w K mg base ["frame", "value", "own"] "is_cell" (defScope (top 23)) (adr K 44) cd A outer s H L2.E0).xe) :
  PSs (cxOf L2.CX0 P w K mg base ["frame", "value", "own"] "is_cell" (defScope (top 23)) (adr K 44) cd A outer s H L2.E0) (defBody (top 23)) (tDS K (ca K) (b_is_cell (callS T k))) :=
    (ss_cons (s_if (t_w (w_or (t_not (t_tst (ri_tuple W.n_isinstance W.n_tuple r_var))) (w_or (t_rcmp .ne C (rb_len C W.n_len (r_cons r_var r_nil)) r_int) (w_or1 (t_not (t_tst (r_call C (W.f 38) W.g38 W.k38 (r_cons r_var (r_cons (r_ix C r_var r_int) (r_cons r_str r_nil)))))))))) (ss_one (s_rt r_bl)) ss_nil)
    (ss_one (s_rt (r_and (r_call C (W.f 36) W.g36 W.k36 (r_cons r_var (r_cons (r_sl r_var (r_po r_int) (r_po r_int)) (r_cons r_var r_nil)))) (r_and1 (r_call C (W.f 40) W.g40 W.k40 (r_cons (r_ix C r_var r_int) r_nil)))))))
/-- claim_depth -/
theorem w45 (W : Wd P w K mg base k) (A : Around) (outer : List Env) (s : Shared) (H : Hp) (cd : Value) (C : Cok (cxOf L2.CX0 P w K mg base ["frame", "claim"] "claim_depth" (defScope (top 50)) (adr K 45) cd A outer s H L2.E0) (2 * k + 1)) (po : PassesOwn (model P w) (A.deeper (PyProof.Rows.envOfC "claim_depth" (defScope (top 50)) s.heap.objs.size (adr K 45) cd)) (PyProof.Rows.envOfC "claim_depth" (defScope (top 50)) s.heap.objs.size (adr K 45) cd) (cxOf L2.CX0 P w K mg base ["frame", "claim"] "claim_depth" (defScope (top 50)) (adr K 45) cd A outer s H L2.E0).xe) :
  PSs (cxOf L2.CX0 P w K mg base ["frame", "claim"] "claim_depth" (defScope (top 50)) (adr K 45) cd A outer s H L2.E0) (defBody (top 50)) (tDS K (ca K) (b_claim_depth (callS T k))) :=
    (ss_cons (s_ex (r_call C (W.f 46) W.g46 W.k46 (r_cons r_var (r_cons r_var r_nil))))
    (ss_one (s_rt (r_call C (W.f 48) W.g48 W.k48 (r_cons r_var r_nil)))))
/-- require_both -/
theorem w46 (W : Wd P w K mg base k) (A : Around) (outer : List Env) (s : Shared) (H : Hp) (cd : Value) (C : Cok (cxOf L2.CX0 P w K mg base ["frame", "claim"] "require_both" (defScope (top 49)) (adr K 46) cd A outer s H L2.E0) (2 * k + 1)) (po : PassesOwn (model P w) (A.deeper (PyProof.Rows.envOfC "require_both" (defScope (top 49)) s.heap.objs.size (adr K 46) cd)) (PyProof.Rows.envOfC "require_both" (defScope (top 49)) s.heap.objs.size (adr K 46) cd) (cxOf L2.CX0 P w K mg base ["frame", "claim"] "require_both" (defScope (top 49)) (adr K 46) cd A outer s H L2.E0).xe) :
  PSs (cxOf L2.CX0 P w K mg base ["frame", "claim"] "require_both" (defScope (top 49)) (adr K 46) cd A outer s H L2.E0) (defBody (top 49)) (tDS K (ca K) (b_require_both (callS T k))) :=
    (ss_cons (s_ex (r_call C (W.f 25) W.g25 W.k25 (r_cons r_var r_nil)))
    (ss_one (s_ex (r_call C (W.f 47) W.g47 W.k47 (r_cons r_var (r_cons r_var r_nil))))))
/-- require_claim -/
theorem w47 (W : Wd P w K mg base k) (A : Around) (outer : List Env) (s : Shared) (H : Hp) (cd : Value) (C : Cok (cxOf L2.CX0 P w K mg base ["frame", "value"] "require_claim" (defScope (top 48)) (adr K 47) cd A outer s H L2.E0) (2 * k + 1)) (po : PassesOwn (model P w) (A.deeper (PyProof.Rows.envOfC "require_claim" (defScope (top 48)) s.heap.objs.size (adr K 47) cd)) (PyProof.Rows.envOfC "require_claim" (defScope (top 48)) s.heap.objs.size (adr K 47) cd) (cxOf L2.CX0 P w K mg base ["frame", "value"] "require_claim" (defScope (top 48)) (adr K 47) cd A outer s H L2.E0).xe) :
  PSs (cxOf L2.CX0 P w K mg base ["frame", "value"] "require_claim" (defScope (top 48)) (adr K 47) cd A outer s H L2.E0) (defBody (top 48)) (tDS K (ca K) (b_require_claim (callS T k))) :=
    (ss_one (s_if (t_not (t_tst (r_call C (W.f 26) W.g26 W.k26 (r_cons r_var (r_cons r_var r_nil))))) (ss_one s_no) ss_nil))
/-- depth_of -/
theorem w48 (W : Wd P w K mg base k) (A : Around) (outer : List Env) (s : Shared) (H : Hp) (cd : Value) (C : Cok (cxOf L2.CX0 P w K mg base ["claim", "part"] "depth_of" (defScope (top 41)) (adr K 48) cd A outer s H L2.E0) (2 * k + 1)) (po : PassesOwn (model P w) (A.deeper (PyProof.Rows.envOfC "depth_of" (defScope (top 41)) s.heap.objs.size (adr K 48) cd)) (PyProof.Rows.envOfC "depth_of" (defScope (top 41)) s.heap.objs.size (adr K 48) cd) (cxOf L2.CX0 P w K mg base ["claim", "part"] "depth_of" (defScope (top 41)) (adr K 48) cd A outer s H L2.E0).xe) :
  PSs (cxOf L2.CX0 P w K mg base ["claim", "part"] "depth_of" (defScope (top 41)) (adr K 48) cd A outer s H L2.E0) (defBody (top 41)) (tDS K (ca K) (b_depth_of (callS T k))) :=
    (ss_one (s_rt (r_op .add r_int (r_maxD C W.n_max (r_lc [("part", 1)] C (i_sq (r_call C (W.f 49) W.g49 W.k49 (r_cons r_var r_nil))) (fun _ _ _ _ _ C => (g_name C)) (fun _ _ _ _ _ C => ts_nil) (fun _ _ _ _ _ C => (r_call C (W.f 48) W.g48 W.k48 (r_cons r_var r_nil)))) r_int))))
/-- claim_parts -/
theorem w49 (W : Wd P w K mg base k) (A : Around) (outer : List Env) (s : Shared) (H : Hp) (cd : Value) (C : Cok (cxOf L2.CX0 P w K mg base ["claim", "part", "own", "guard", "body", "op", "one", "other"] "claim_parts" (defScope (top 40)) (adr K 49) cd A outer s H L2.E0) (2 * k + 1)) (po : PassesOwn (model P w) (A.deeper (PyProof.Rows.envOfC "claim_parts" (defScope (top 40)) s.heap.objs.size (adr K 49) cd)) (PyProof.Rows.envOfC "claim_parts" (defScope (top 40)) s.heap.objs.size (adr K 49) cd) (cxOf L2.CX0 P w K mg base ["claim", "part", "own", "guard", "body", "op", "one", "other"] "claim_parts" (defScope (top 40)) (adr K 49) cd A outer s H L2.E0).xe) :
  PSs (cxOf L2.CX0 P w K mg base ["claim", "part", "own", "guard", "body", "op", "one", "other"] "claim_parts" (defScope (top 40)) (adr K 49) cd A outer s H L2.E0) (defBody (top 40)) (tDS K (ca K) (b_claim_parts (callS T k))) :=
    (ss_one (s_ma r_var (ma_cons C (p_seq C (each_cons (p_lit C) (each_cons p_cap each_nil))) (ss_one (s_rt (r_lst (r_cons r_var r_nil)))) (ma_cons C (p_seq C (each_cons (p_lit C) (each_cons p_cap (each_cons p_cap (each_cons p_cap each_nil))))) (ss_one (s_rt (r_lst (r_cons r_var (r_cons r_var r_nil))))) (ma_cons C (p_seq C (each_cons (p_ors (fs_cons (p_lit C) (fs_cons (p_lit C) fs_nil))) (each_cons p_cap (each_cons p_cap (each_cons p_cap each_nil))))) (ss_one (s_rt (r_lst r_nil))) (ma_cons C p_wild (ss_one (s_rt (rb_list C W.n_list (r_cons (r_ix C r_var r_int) r_nil)))) ma_nil))))))
/-- u_law_all_judged -/
theorem w50 (W : Wd P w K mg base k) (A : Around) (outer : List Env) (s : Shared) (H : Hp) (cd : Value) (C : Cok (cxOf L2.CX0 P w K mg base ["sides", "frame", "own", "value", "due", "text", "turn", "told"] "_law_all_judged" (defScope (top 77)) (adr K 50) cd A outer s H L2.E0) (2 * k + 1)) (po : PassesOwn (model P w) (A.deeper (PyProof.Rows.envOfC "_law_all_judged" (defScope (top 77)) s.heap.objs.size (adr K 50) cd)) (PyProof.Rows.envOfC "_law_all_judged" (defScope (top 77)) s.heap.objs.size (adr K 50) cd) (cxOf L2.CX0 P w K mg base ["sides", "frame", "own", "value", "due", "text", "turn", "told"] "_law_all_judged" (defScope (top 77)) (adr K 50) cd A outer s H L2.E0).xe) :
  PSs (cxOf L2.CX0 P w K mg base ["sides", "frame", "own", "value", "due", "text", "turn", "told"] "_law_all_judged" (defScope (top 77)) (adr K 50) cd A outer s H L2.E0) (defBody (top 77)) (tDS K (ca K) (b_u_law_all_judged (callS T k))) :=
    (ss_cons (s_st C (r_lst (r_cons (r_call C (W.f 51) W.g51 W.k51 (r_cons r_var (r_cons r_var r_nil))) (r_cons (r_call C (W.f 60) W.g60 W.k60 (r_cons r_var (r_cons r_var (r_cons r_var r_nil)))) (r_cons (r_call C (W.f 55) W.g55 W.k55 (r_cons r_var (r_cons r_var (r_cons r_var r_nil)))) r_nil)))))
    (ss_cons (s_st C (rb_repr C W.n_repr (r_cons r_var r_nil)))
    (ss_cons (s_fo C po (i_r1 W.n_range r_int) (g_name C) (ss_cons (s_st C (r_lst (r_cons (r_call C (W.f 24) W.g24 W.k24 (r_cons r_var (r_cons r_var r_nil))) (r_cons (r_call C (W.f 61) W.g61 W.k61 (r_cons r_var (r_cons r_var (r_cons r_var r_nil)))) (r_cons (r_call C (W.f 63) W.g63 W.k63 (r_cons r_var (r_cons r_var (r_cons r_var r_nil)))) r_nil)))))
    (ss_one (s_if (t_w (w_or (t_rcmp .ne C (rb_repr C W.n_repr (r_cons r_var r_nil)) (rb_repr C W.n_repr (r_cons r_var r_nil))) (w_or1 (t_rcmp .ne C (rb_repr C W.n_repr (r_cons r_var r_nil)) r_var)))) (ss_one (s_rt r_bl)) ss_nil))))
    (ss_one (s_rt r_bl)))))
/-- u_law_is_claim -/
theorem w51 (W : Wd P w K mg base k) (A : Around) (outer : List Env) (s : Shared) (H : Hp) (cd : Value) (C : Cok (cxOf L2.CX0 P w K mg base ["sides", "value", "part"] "_law_is_claim" (defScope (top 76)) (adr K 51) cd A outer s H L2.E0) (2 * k + 1)) (po : PassesOwn (model P w) (A.deeper (PyProof.Rows.envOfC "_law_is_claim" (defScope (top 76)) s.heap.objs.size (adr K 51) cd)) (PyProof.Rows.envOfC "_law_is_claim" (defScope (top 76)) s.heap.objs.size (adr K 51) cd) (cxOf L2.CX0 P w K mg base ["sides", "value", "part"] "_law_is_claim" (defScope (top 76)) (adr K 51) cd A outer s H L2.E0).xe) :
  PSs (cxOf L2.CX0 P w K mg base ["sides", "value", "part"] "_law_is_claim" (defScope (top 76)) (adr K 51) cd A outer s H L2.E0) (defBody (top 76)) (tDS K (ca K) (b_u_law_is_claim (callS T k))) :=
    (ss_cons (s_if (t_tst (r_call C (W.f 52) W.g52 W.k52 (r_cons r_var r_nil))) (ss_one (s_rt (r_cmp .eq C (r_lc [("part", 2)] C (i_sq (r_ix C r_var r_int)) (fun _ _ _ _ _ C => (g_name C)) (fun _ _ _ _ _ C => (ts_one (t_not (t_tst (r_call C (W.f 51) W.g51 W.k51 (r_cons r_var (r_cons r_var r_nil))))))) (fun _ _ _ _ _ C => r_var)) (r_lst r_nil)))) ss_nil)
    (ss_cons (s_if (t_tst (r_call C (W.f 53) W.g53 W.k53 (r_cons r_var (r_cons r_str (r_cons r_int r_nil))))) (ss_one (s_rt (r_call C (W.f 51) W.g51 W.k51 (r_cons r_var (r_cons (r_ix C r_var r_int) r_nil))))) ss_nil)
    (ss_cons (s_if (t_tst (r_call C (W.f 53) W.g53 W.k53 (r_cons r_var (r_cons r_str (r_cons r_int r_nil))))) (ss_cons (s_if (t_not (t_tst (r_call C (W.f 59) W.g59 W.k59 (r_cons r_var (r_cons (r_ix C r_var r_int) r_nil))))) (ss_one (s_rt r_bl)) ss_nil)
    (ss_one (s_rt (r_and (r_call C (W.f 60) W.g60 W.k60 (r_cons r_var (r_cons (r_ix C r_var r_int) (r_cons (r_ix C r_var r_int) r_nil)))) (r_and1 (r_call C (W.f 55) W.g55 W.k55 (r_cons r_var (r_cons (r_ix C r_var r_int) (r_cons (r_ix C r_var r_int) r_nil))))))))) ss_nil)
    (ss_cons (s_if (t_w (w_and (t_tst (r_call C (W.f 53) W.g53 W.k53 (r_cons r_var (r_cons r_str (r_cons r_int r_nil))))) (w_and1 (t_tst (r_call C (W.f 54) W.g54 W.k54 (r_cons (r_ix C r_var r_int) (r_cons (r_lst (r_cons r_str (r_cons r_str (r_cons r_str r_nil)))) r_nil))))))) (ss_one (s_rt (r_and (r_call C (W.f 58) W.g58 W.k58 (r_cons r_var (r_cons (r_ix C r_var r_int) (r_cons (r_tup r_nil) r_nil)))) (r_and1 (r_call C (W.f 58) W.g58 W.k58 (r_cons r_var (r_cons (r_ix C r_var r_int) (r_cons (r_tup r_nil) r_nil)))))))) ss_nil)
    (ss_one (s_rt (r_and (r_call C (W.f 53) W.g53 W.k53 (r_cons r_var (r_cons r_str (r_cons r_int r_nil)))) (r_and1 (r_call C (W.f 55) W.g55 W.k55 (r_cons r_var (r_cons r_var (r_cons (r_tup r_nil) r_nil))))))))))))
/-- u_law_are_joined -/
theorem w52 (W : Wd P w K mg base k) (A : Around) (outer : List Env) (s : Shared) (H : Hp) (cd : Value) (C : Cok (cxOf L2.CX0 P w K mg base ["value"] "_law_are_joined" (defScope (top 67)) (adr K 52) cd A outer s H L2.E0) (2 * k + 1)) (po : PassesOwn (model P w) (A.deeper (PyProof.Rows.envOfC "_law_are_joined" (defScope (top 67)) s.heap.objs.size (adr K 52) cd)) (PyProof.Rows.envOfC "_law_are_joined" (defScope (top 67)) s.heap.objs.size (adr K 52) cd) (cxOf L2.CX0 P w K mg base ["value"] "_law_are_joined" (defScope (top 67)) (adr K 52) cd A outer s H L2.E0).xe) :
  PSs (cxOf L2.CX0 P w K mg base ["value"] "_law_are_joined" (defScope (top 67)) (adr K 52) cd A outer s H L2.E0) (defBody (top 67)) (tDS K (ca K) (b_u_law_are_joined (callS T k))) :=
    (ss_cons (s_if (t_w (w_or (t_not (t_tst (ri_tuple W.n_isinstance W.n_tuple r_var))) (w_or (t_rcmp .ne C (rb_len C W.n_len (r_cons r_var r_nil)) r_int) (w_or1 (t_not (t_tst (ri_str W.n_isinstance W.n_str (r_ix C r_var r_int)))))))) (ss_one (s_rt r_bl)) ss_nil)
    (ss_one (s_rt (r_and (r_cmp .in_ C (r_ix C r_var r_int) (r_lst (r_cons r_str (r_cons r_str r_nil)))) (r_and1 (ri_tuple W.n_isinstance W.n_tuple (r_ix C r_var r_int)))))))
/-- u_law_starts -/
theorem w53 (W : Wd P w K mg base k) (A : Around) (outer : List Env) (s : Shared) (H : Hp) (cd : Value) (C : Cok (cxOf L2.CX0 P w K mg base ["value", "word", "size"] "_law_starts" (defScope (top 68)) (adr K 53) cd A outer s H L2.E0) (2 * k + 1)) (po : PassesOwn (model P w) (A.deeper (PyProof.Rows.envOfC "_law_starts" (defScope (top 68)) s.heap.objs.size (adr K 53) cd)) (PyProof.Rows.envOfC "_law_starts" (defScope (top 68)) s.heap.objs.size (adr K 53) cd) (cxOf L2.CX0 P w K mg base ["value", "word", "size"] "_law_starts" (defScope (top 68)) (adr K 53) cd A outer s H L2.E0).xe) :
  PSs (cxOf L2.CX0 P w K mg base ["value", "word", "size"] "_law_starts" (defScope (top 68)) (adr K 53) cd A outer s H L2.E0) (defBody (top 68)) (tDS K (ca K) (b_u_law_starts (callS T k))) :=
    (ss_one (s_rt (r_and (ri_tuple W.n_isinstance W.n_tuple r_var) (r_and (r_cmp .eq C (rb_len C W.n_len (r_cons r_var r_nil)) r_var) (r_and (ri_str W.n_isinstance W.n_str (r_ix C r_var r_int)) (r_and1 (r_cmp .eq C (r_ix C r_var r_int) r_var)))))))
/-- u_law_is_op -/
theorem w54 (W : Wd P w K mg base k) (A : Around) (outer : List Env) (s : Shared) (H : Hp) (cd : Value) (C : Cok (cxOf L2.CX0 P w K mg base ["value", "ops"] "_law_is_op" (defScope (top 70)) (adr K 54) cd A outer s H L2.E0) (2 * k + 1)) (po : PassesOwn (model P w) (A.deeper (PyProof.Rows.envOfC "_law_is_op" (defScope (top 70)) s.heap.objs.size (adr K 54) cd)) (PyProof.Rows.envOfC "_law_is_op" (defScope (top 70)) s.heap.objs.size (adr K 54) cd) (cxOf L2.CX0 P w K mg base ["value", "ops"] "_law_is_op" (defScope (top 70)) (adr K 54) cd A outer s H L2.E0).xe) :
  PSs (cxOf L2.CX0 P w K mg base ["value", "ops"] "_law_is_op" (defScope (top 70)) (adr K 54) cd A outer s H L2.E0) (defBody (top 70)) (tDS K (ca K) (b_u_law_is_op (callS T k))) :=
    (ss_one (s_rt (r_and (ri_str W.n_isinstance W.n_str r_var) (r_and1 (r_cmp .in_ C r_var r_var)))))
/-- u_law_is_body -/
theorem w55 (W : Wd P w K mg base k) (A : Around) (outer : List Env) (s : Shared) (H : Hp) (cd : Value) (C : Cok (cxOf L2.CX0 P w K mg base ["sides", "value", "own", "part"] "_law_is_body" (defScope (top 75)) (adr K 55) cd A outer s H L2.E0) (2 * k + 1)) (po : PassesOwn (model P w) (A.deeper (PyProof.Rows.envOfC "_law_is_body" (defScope (top 75)) s.heap.objs.size (adr K 55) cd)) (PyProof.Rows.envOfC "_law_is_body" (defScope (top 75)) s.heap.objs.size (adr K 55) cd) (cxOf L2.CX0 P w K mg base ["sides", "value", "own", "part"] "_law_is_body" (defScope (top 75)) (adr K 55) cd A outer s H L2.E0).xe) :
  PSs (cxOf L2.CX0 P w K mg base ["sides", "value", "own", "part"] "_law_is_body" (defScope (top 75)) (adr K 55) cd A outer s H L2.E0) (defBody (top 75)) (tDS K (ca K) (b_u_law_is_body (callS T k))) :=
    (ss_cons (s_if (t_tst (r_call C (W.f 52) W.g52 W.k52 (r_cons r_var r_nil))) (ss_one (s_rt (r_cmp .eq C (r_lc [("part", 3)] C (i_sq (r_ix C r_var r_int)) (fun _ _ _ _ _ C => (g_name C)) (fun _ _ _ _ _ C => (ts_one (t_not (t_tst (r_call C (W.f 55) W.g55 W.k55 (r_cons r_var (r_cons r_var (r_cons r_var r_nil)))))))) (fun _ _ _ _ _ C => r_var)) (r_lst r_nil)))) ss_nil)
    (ss_cons (s_if (t_tst (r_call C (W.f 53) W.g53 W.k53 (r_cons r_var (r_cons r_str (r_cons r_int r_nil))))) (ss_one (s_rt (r_call C (W.f 55) W.g55 W.k55 (r_cons r_var (r_cons (r_ix C r_var r_int) (r_cons r_var r_nil)))))) ss_nil)
    (ss_cons (s_if (t_w (w_or (t_not (t_tst (r_call C (W.f 53) W.g53 W.k53 (r_cons r_var (r_cons r_str (r_cons r_int r_nil)))))) (w_or1 (t_not (t_tst (r_call C (W.f 54) W.g54 W.k54 (r_cons (r_ix C r_var r_int) (r_cons (r_lst (r_cons r_str (r_cons r_str (r_cons r_str r_nil)))) r_nil)))))))) (ss_one (s_rt r_bl)) ss_nil)
    (ss_one (s_rt (r_and (r_call C (W.f 56) W.g56 W.k56 (r_cons r_var (r_cons (r_ix C r_var r_int) (r_cons r_var r_nil)))) (r_and1 (r_call C (W.f 56) W.g56 W.k56 (r_cons r_var (r_cons (r_ix C r_var r_int) (r_cons r_var r_nil)))))))))))
/-- u_law_is_worth -/
theorem w56 (W : Wd P w K mg base k) (A : Around) (outer : List Env) (s : Shared) (H : Hp) (cd : Value) (C : Cok (cxOf L2.CX0 P w K mg base ["sides", "value", "own"] "_law_is_worth" (defScope (top 74)) (adr K 56) cd A outer s H L2.E0) (2 * k + 1)) (po : PassesOwn (model P w) (A.deeper (PyProof.Rows.envOfC "_law_is_worth" (defScope (top 74)) s.heap.objs.size (adr K 56) cd)) (PyProof.Rows.envOfC "_law_is_worth" (defScope (top 74)) s.heap.objs.size (adr K 56) cd) (cxOf L2.CX0 P w K mg base ["sides", "value", "own"] "_law_is_worth" (defScope (top 74)) (adr K 56) cd A outer s H L2.E0).xe) :
  PSs (cxOf L2.CX0 P w K mg base ["sides", "value", "own"] "_law_is_worth" (defScope (top 74)) (adr K 56) cd A outer s H L2.E0) (defBody (top 74)) (tDS K (ca K) (b_u_law_is_worth (callS T k))) :=
    (ss_cons (s_if (t_w (w_or (t_not (t_tst (ri_tuple W.n_isinstance W.n_tuple r_var))) (w_or (t_rcmp .notIn C (rb_len C W.n_len (r_cons r_var r_nil)) (r_lst (r_cons r_int (r_cons r_int r_nil)))) (w_or1 (t_not (t_tst (ri_str W.n_isinstance W.n_str (r_ix C r_var r_int)))))))) (ss_one (s_rt r_bl)) ss_nil)
    (ss_cons (s_if (t_rcmp .eq C (rb_len C W.n_len (r_cons r_var r_nil)) r_int) (ss_one (s_rt (r_and (r_cmp .in_ C (r_ix C r_var r_int) (r_op .add (r_lst (r_cons r_str r_nil)) (rb_list C W.n_list (r_cons (r_ix C r_var r_int) r_nil)))) (r_and1 (r_call C (W.f 57) W.g57 W.k57 (r_cons (r_ix C r_var r_int) r_nil)))))) ss_nil)
    (ss_cons (s_if (t_w (w_or (t_rcmp .notIn C (r_ix C r_var r_int) (rb_dictT C W.n_dict (r_cons (r_ix C r_var r_int) r_nil))) (w_or (t_not (t_tst (r_call C (W.f 58) W.g58 W.k58 (r_cons r_var (r_cons (r_sl r_var (r_po r_int) (r_po r_int)) (r_cons r_var r_nil)))))) (w_or1 (t_not (t_tst (r_call C (W.f 57) W.g57 W.k57 (r_cons (r_ix C r_var r_int) r_nil)))))))) (ss_one (s_rt r_bl)) ss_nil)
    (ss_one (s_rt (r_or (r_cmp .notIn C (r_ix C r_var r_int) r_var) (r_or1 (r_cmp .eq C (r_ix C r_var r_int) r_int))))))))
/-- u_law_is_whole -/
theorem w57 (W : Wd P w K mg base k) (A : Around) (outer : List Env) (s : Shared) (H : Hp) (cd : Value) (C : Cok (cxOf L2.CX0 P w K mg base ["value"] "_law_is_whole" (defScope (top 71)) (adr K 57) cd A outer s H L2.E0) (2 * k + 1)) (po : PassesOwn (model P w) (A.deeper (PyProof.Rows.envOfC "_law_is_whole" (defScope (top 71)) s.heap.objs.size (adr K 57) cd)) (PyProof.Rows.envOfC "_law_is_whole" (defScope (top 71)) s.heap.objs.size (adr K 57) cd) (cxOf L2.CX0 P w K mg base ["value"] "_law_is_whole" (defScope (top 71)) (adr K 57) cd A outer s H L2.E0).xe) :
  PSs (cxOf L2.CX0 P w K mg base ["value"] "_law_is_whole" (defScope (top 71)) (adr K 57) cd A outer s H L2.E0) (defBody (top 71)) (tDS K (ca K) (b_u_law_is_whole (callS T k))) :=
    (ss_one (s_rt (r_and (ri_int W.n_isinstance W.n_int r_var) (r_and (r_not (ri_bool W.n_isinstance W.n_bool r_var)) (r_and1 (r_cmp .lt C (rb_abs C W.n_abs (r_cons r_var r_nil)) (r_op .pow r_int r_int)))))))
/-- u_law_is_place -/
theorem w58 (W : Wd P w K mg base k) (A : Around) (outer : List Env) (s : Shared) (H : Hp) (cd : Value) (C : Cok (cxOf L2.CX0 P w K mg base ["sides", "value", "own"] "_law_is_place" (defScope (top 72)) (adr K 58) cd A outer s H L2.E0) (2 * k + 1)) (po : PassesOwn (model P w) (A.deeper (PyProof.Rows.envOfC "_law_is_place" (defScope (top 72)) s.heap.objs.size (adr K 58) cd)) (PyProof.Rows.envOfC "_law_is_place" (defScope (top 72)) s.heap.objs.size (adr K 58) cd) (cxOf L2.CX0 P w K mg base ["sides", "value", "own"] "_law_is_place" (defScope (top 72)) (adr K 58) cd A outer s H L2.E0).xe) :
  PSs (cxOf L2.CX0 P w K mg base ["sides", "value", "own"] "_law_is_place" (defScope (top 72)) (adr K 58) cd A outer s H L2.E0) (defBody (top 72)) (tDS K (ca K) (b_u_law_is_place (callS T k))) :=
    (ss_cons (s_if (t_w (w_or (t_not (t_tst (ri_tuple W.n_isinstance W.n_tuple r_var))) (w_or (t_rcmp .ne C (rb_len C W.n_len (r_cons r_var r_nil)) r_int) (w_or1 (t_not (t_tst (ri_str W.n_isinstance W.n_str (r_ix C r_var r_int)))))))) (ss_one (s_rt r_bl)) ss_nil)
    (ss_one (s_rt (r_and (r_cmp .in_ C (r_ix C r_var r_int) (r_op .add (r_call C (W.f 20) W.g20 W.k20 (r_cons r_var r_nil)) (rb_list C W.n_list (r_cons r_var r_nil)))) (r_and1 (r_call C (W.f 57) W.g57 W.k57 (r_cons (r_ix C r_var r_int) r_nil)))))))
/-- u_law_are_own -/
theorem w59 (W : Wd P w K mg base k) (A : Around) (outer : List Env) (s : Shared) (H : Hp) (cd : Value) (C : Cok (cxOf L2.CX0 P w K mg base ["sides", "value", "name"] "_law_are_own" (defScope (top 69)) (adr K 59) cd A outer s H L2.E0) (2 * k + 1)) (po : PassesOwn (model P w) (A.deeper (PyProof.Rows.envOfC "_law_are_own" (defScope (top 69)) s.heap.objs.size (adr K 59) cd)) (PyProof.Rows.envOfC "_law_are_own" (defScope (top 69)) s.heap.objs.size (adr K 59) cd) (cxOf L2.CX0 P w K mg base ["sides", "value", "name"] "_law_are_own" (defScope (top 69)) (adr K 59) cd A outer s H L2.E0).xe) :
  PSs (cxOf L2.CX0 P w K mg base ["sides", "value", "name"] "_law_are_own" (defScope (top 69)) (adr K 59) cd A outer s H L2.E0) (defBody (top 69)) (tDS K (ca K) (b_u_law_are_own (callS T k))) :=
    (ss_cons (s_if (t_w (w_or (t_not (t_tst (ri_tuple W.n_isinstance W.n_tuple r_var))) (w_or1 (t_rcmp .notIn C (rb_len C W.n_len (r_cons r_var r_nil)) (r_lst (r_cons r_int (r_cons r_int r_nil))))))) (ss_one (s_rt r_bl)) ss_nil)
    (ss_cons (s_fo C po (i_sq r_var) (g_name C) (ss_one (s_if (t_w (w_or (t_not (t_tst (ri_str W.n_isinstance W.n_str r_var))) (w_or (t_rcmp .eq C r_var r_str) (w_or (t_rcmp .gt C (rb_len C W.n_len (r_cons r_var r_nil)) r_int) (w_or1 (t_rcmp .ne C (r_strip r_var (r_cons r_str r_nil)) r_str)))))) (ss_one (s_rt r_bl)) ss_nil)))
    (ss_one (s_rt (r_and (r_cmp .eq C (r_lenSet C W.n_len W.n_set r_var) (rb_len C W.n_len (r_cons r_var r_nil))) (r_and1 (r_cmp .eq C (r_lc [("name", 2)] C (i_sq r_var) (fun _ _ _ _ _ C => (g_name C)) (fun _ _ _ _ _ C => (ts_one (t_rcmp .in_ C r_var (r_call C (W.f 14) W.g14 W.k14 (r_cons r_var r_nil))))) (fun _ _ _ _ _ C => r_var)) (r_lst r_nil))))))))
/-- u_law_is_guard -/
theorem w60 (W : Wd P w K mg base k) (A : Around) (outer : List Env) (s : Shared) (H : Hp) (cd : Value) (C : Cok (cxOf L2.CX0 P w K mg base ["sides", "value", "own", "names", "term", "part"] "_law_is_guard" (defScope (top 73)) (adr K 60) cd A outer s H L2.E0) (2 * k + 1)) (po : PassesOwn (model P w) (A.deeper (PyProof.Rows.envOfC "_law_is_guard" (defScope (top 73)) s.heap.objs.size (adr K 60) cd)) (PyProof.Rows.envOfC "_law_is_guard" (defScope (top 73)) s.heap.objs.size (adr K 60) cd) (cxOf L2.CX0 P w K mg base ["sides", "value", "own", "names", "term", "part"] "_law_is_guard" (defScope (top 73)) (adr K 60) cd A outer s H L2.E0).xe) :
  PSs (cxOf L2.CX0 P w K mg base ["sides", "value", "own", "names", "term", "part"] "_law_is_guard" (defScope (top 73)) (adr K 60) cd A outer s H L2.E0) (defBody (top 73)) (tDS K (ca K) (b_u_law_is_guard (callS T k))) :=
    (ss_cons (s_if (t_tst (r_call C (W.f 52) W.g52 W.k52 (r_cons r_var r_nil))) (ss_one (s_rt (r_cmp .eq C (r_lc [("part", 5)] C (i_sq (r_ix C r_var r_int)) (fun _ _ _ _ _ C => (g_name C)) (fun _ _ _ _ _ C => (ts_one (t_not (t_tst (r_call C (W.f 60) W.g60 W.k60 (r_cons r_var (r_cons r_var (r_cons r_var r_nil)))))))) (fun _ _ _ _ _ C => r_var)) (r_lst r_nil)))) ss_nil)
    (ss_cons (s_if (t_w (w_or (t_not (t_tst (r_call C (W.f 53) W.g53 W.k53 (r_cons r_var (r_cons r_str (r_cons r_int r_nil)))))) (w_or1 (t_not (t_tst (r_call C (W.f 54) W.g54 W.k54 (r_cons (r_ix C r_var r_int) (r_cons (r_lst (r_cons r_str (r_cons r_str r_nil))) r_nil)))))))) (ss_one (s_rt r_bl)) ss_nil)
    (ss_cons (s_if (t_w (w_or (t_not (t_tst (r_call C (W.f 58) W.g58 W.k58 (r_cons r_var (r_cons (r_ix C r_var r_int) (r_cons r_var r_nil)))))) (w_or1 (t_not (t_tst (r_call C (W.f 58) W.g58 W.k58 (r_cons r_var (r_cons (r_ix C r_var r_int) (r_cons r_var r_nil))))))))) (ss_one (s_rt r_bl)) ss_nil)
    (ss_cons (s_setLc [("term", 4)] C (i_sq (r_sl r_var (r_po r_int) r_po0)) (fun _ _ _ _ _ C => (g_name C)) (fun _ _ _ _ _ C => (ts_one (t_rcmp .in_ C (r_ix C r_var r_int) r_var))) (fun _ _ _ _ _ C => (r_ix C r_var r_int)))
    (ss_one (s_rt (r_and (r_cmp .ne C r_var (r_lst r_nil)) (r_and1 (r_cmp .eq C (r_lc [("term", 4)] C (i_sq (r_sl r_var (r_po r_int) r_po0)) (fun _ _ _ _ _ C => (g_name C)) (fun _ _ _ _ _ C => (ts_one (t_w (w_and (t_rcmp .in_ C (r_ix C r_var r_int) r_var) (w_and1 (t_rcmp .ne C (r_ix C r_var r_int) r_int)))))) (fun _ _ _ _ _ C => r_var)) (r_lst r_nil))))))))))
/-- is_guard -/
theorem w61 (W : Wd P w K mg base k) (A : Around) (outer : List Env) (s : Shared) (H : Hp) (cd : Value) (C : Cok (cxOf L2.CX0 P w K mg base ["frame", "own", "value"] "is_guard" (defScope (top 46)) (adr K 61) cd A outer s H L2.E0) (2 * k + 1)) (po : PassesOwn (model P w) (A.deeper (PyProof.Rows.envOfC "is_guard" (defScope (top 46)) s.heap.objs.size (adr K 61) cd)) (PyProof.Rows.envOfC "is_guard" (defScope (top 46)) s.heap.objs.size (adr K 61) cd) (cxOf L2.CX0 P w K mg base ["frame", "own", "value"] "is_guard" (defScope (top 46)) (adr K 61) cd A outer s H L2.E0).xe) :
  PSs (cxOf L2.CX0 P w K mg base ["frame", "own", "value"] "is_guard" (defScope (top 46)) (adr K 61) cd A outer s H L2.E0) (defBody (top 46)) (tDS K (ca K) (b_is_guard (callS T k))) :=
    (ss_cons (s_ex (r_call C (W.f 62) W.g62 W.k62 (r_cons r_var (r_cons r_var r_nil))))
    (ss_one (s_rt (r_call C (W.f 33) W.g33 W.k33 (r_cons r_var (r_cons r_var (r_cons r_var (r_cons (r_gint W.c_DEEP) r_nil))))))))
/-- require_own -/
theorem w62 (W : Wd P w K mg base k) (A : Around) (outer : List Env) (s : Shared) (H : Hp) (cd : Value) (C : Cok (cxOf L2.CX0 P w K mg base ["frame", "own"] "require_own" (defScope (top 45)) (adr K 62) cd A outer s H L2.E0) (2 * k + 1)) (po : PassesOwn (model P w) (A.deeper (PyProof.Rows.envOfC "require_own" (defScope (top 45)) s.heap.objs.size (adr K 62) cd)) (PyProof.Rows.envOfC "require_own" (defScope (top 45)) s.heap.objs.size (adr K 62) cd) (cxOf L2.CX0 P w K mg base ["frame", "own"] "require_own" (defScope (top 45)) (adr K 62) cd A outer s H L2.E0).xe) :
  PSs (cxOf L2.CX0 P w K mg base ["frame", "own"] "require_own" (defScope (top 45)) (adr K 62) cd A outer s H L2.E0) (defBody (top 45)) (tDS K (ca K) (b_require_own (callS T k))) :=
    (ss_cons (s_ex (r_call C (W.f 25) W.g25 W.k25 (r_cons r_var r_nil)))
    (ss_one (s_if (t_not (t_tst (r_call C (W.f 31) W.g31 W.k31 (r_cons r_var (r_cons r_var r_nil))))) (ss_one s_no) ss_nil)))
/-- is_body -/
theorem w63 (W : Wd P w K mg base k) (A : Around) (outer : List Env) (s : Shared) (H : Hp) (cd : Value) (C : Cok (cxOf L2.CX0 P w K mg base ["frame", "own", "value"] "is_body" (defScope (top 47)) (adr K 63) cd A outer s H L2.E0) (2 * k + 1)) (po : PassesOwn (model P w) (A.deeper (PyProof.Rows.envOfC "is_body" (defScope (top 47)) s.heap.objs.size (adr K 63) cd)) (PyProof.Rows.envOfC "is_body" (defScope (top 47)) s.heap.objs.size (adr K 63) cd) (cxOf L2.CX0 P w K mg base ["frame", "own", "value"] "is_body" (defScope (top 47)) (adr K 63) cd A outer s H L2.E0).xe) :
  PSs (cxOf L2.CX0 P w K mg base ["frame", "own", "value"] "is_body" (defScope (top 47)) (adr K 63) cd A outer s H L2.E0) (defBody (top 47)) (tDS K (ca K) (b_is_body (callS T k))) :=
    (ss_cons (s_ex (r_call C (W.f 62) W.g62 W.k62 (r_cons r_var (r_cons r_var r_nil))))
    (ss_one (s_rt (r_call C (W.f 41) W.g41 W.k41 (r_cons r_var (r_cons r_var (r_cons r_var (r_cons (r_gint W.c_DEEP) r_nil))))))))
/-- u_law_bent -/
theorem w64 (W : Wd P w K mg base k) (A : Around) (outer : List Env) (s : Shared) (H : Hp) (cd : Value) (C : Cok (cxOf L2.CX0 P w K mg base ["keg", "sides", "value", "deep", "at", "near", "way"] "_law_bent" (defScope (top 79)) (adr K 64) cd A outer s H L2.E0) (2 * k + 1)) (po : PassesOwn (model P w) (A.deeper (PyProof.Rows.envOfC "_law_bent" (defScope (top 79)) s.heap.objs.size (adr K 64) cd)) (PyProof.Rows.envOfC "_law_bent" (defScope (top 79)) s.heap.objs.size (adr K 64) cd) (cxOf L2.CX0 P w K mg base ["keg", "sides", "value", "deep", "at", "near", "way"] "_law_bent" (defScope (top 79)) (adr K 64) cd A outer s H L2.E0).xe) :
  PSs (cxOf L2.CX0 P w K mg base ["keg", "sides", "value", "deep", "at", "near", "way"] "_law_bent" (defScope (top 79)) (adr K 64) cd A outer s H L2.E0) (defBody (top 79)) (tDS K (ca K) (b_u_law_bent (callS T k))) :=
    (ss_cons (s_if (t_w (w_or (t_not (t_tst (ri_tuple W.n_isinstance W.n_tuple r_var))) (w_or (t_rcmp .eq C r_var (r_tup r_nil)) (w_or (t_rcmp .eq C r_var r_int) (w_or1 (t_rcmp .eq C (r_call C (W.f 4) W.g4 W.k4 (r_cons r_var (r_cons r_int r_nil))) r_int)))))) (ss_cons (s_st C (r_call C (W.f 4) W.g4 W.k4 (r_cons r_var (r_cons r_int r_nil))))
    (ss_cons (s_if (t_w (w_and (t_tst (ri_tuple W.n_isinstance W.n_tuple r_var)) (w_and1 (t_rcmp .eq C r_var r_int)))) (ss_one (s_rt (r_sl r_var r_po0 (r_po (r_neg r_int))))) ss_nil)
    (ss_cons (s_if (t_w (w_and (t_tst (ri_tuple W.n_isinstance W.n_tuple r_var)) (w_and1 (t_rcmp .eq C r_var r_int)))) (ss_one (s_rt (r_op .add r_var (r_tup (r_cons (r_call C (W.f 65) W.g65 W.k65 (r_cons r_var (r_cons r_var (r_cons r_var r_nil)))) r_nil))))) ss_nil)
    (ss_cons (s_if (t_w (w_and (t_tst (ri_tuple W.n_isinstance W.n_tuple r_var)) (w_and1 (t_rcmp .eq C r_var r_int)))) (ss_one (s_rt (rb_list C W.n_list (r_cons r_var r_nil)))) ss_nil)
    (ss_one (s_rt (r_call C (W.f 65) W.g65 W.k65 (r_cons r_var (r_cons r_var (r_cons r_var r_nil)))))))))) ss_nil)
    (ss_cons (s_st C (r_call C (W.f 4) W.g4 W.k4 (r_cons r_var (r_cons (rb_len C W.n_len (r_cons r_var r_nil)) r_nil))))
    (ss_cons (s_st C (r_call C (W.f 64) W.g64 W.k64 (r_cons r_var (r_cons r_var (r_cons (r_ix C r_var r_var) (r_cons (r_op .sub r_var r_int) r_nil))))))
    (ss_one (s_rt (r_op .add (r_op .add (r_sl r_var r_po0 (r_po r_var)) (r_tup (r_cons r_var r_nil))) (r_sl r_var (r_po (r_op .add r_var r_int)) r_po0)))))))
/-- u_law_odd -/
theorem w65 (W : Wd P w K mg base k) (A : Around) (outer : List Env) (s : Shared) (H : Hp) (cd : Value) (C : Cok (cxOf L2.CX0 P w K mg base ["keg", "sides", "value", "names", "name", "some"] "_law_odd" (defScope (top 78)) (adr K 65) cd A outer s H L2.E0) (2 * k + 1)) (po : PassesOwn (model P w) (A.deeper (PyProof.Rows.envOfC "_law_odd" (defScope (top 78)) s.heap.objs.size (adr K 65) cd)) (PyProof.Rows.envOfC "_law_odd" (defScope (top 78)) s.heap.objs.size (adr K 65) cd) (cxOf L2.CX0 P w K mg base ["keg", "sides", "value", "names", "name", "some"] "_law_odd" (defScope (top 78)) (adr K 65) cd A outer s H L2.E0).xe) :
  PSs (cxOf L2.CX0 P w K mg base ["keg", "sides", "value", "names", "name", "some"] "_law_odd" (defScope (top 78)) (adr K 65) cd A outer s H L2.E0) (defBody (top 78)) (tDS K (ca K) (b_u_law_odd (callS T k))) :=
    (ss_cons (s_st C (r_op .add (r_call C (W.f 14) W.g14 W.k14 (r_cons r_var r_nil)) (r_lst (r_cons r_str (r_cons r_str (r_cons r_str (r_cons r_str (r_cons r_str (r_cons r_str (r_cons r_str (r_cons r_str (r_cons r_str r_nil))))))))))))
    (ss_cons (s_st C (r_call C (W.f 5) W.g5 W.k5 (r_cons r_var (r_cons r_var r_nil))))
    (ss_cons (s_st C (r_lst (r_cons r_var (r_cons (r_tup (r_cons r_var (r_cons r_int r_nil))) (r_cons (r_tup (r_cons r_var (r_cons r_int r_nil))) (r_cons (r_tup (r_cons r_var (r_cons (r_neg r_int) r_nil))) (r_cons (r_tup (r_cons r_str (r_cons (r_op .pow r_int r_int) r_nil))) (r_cons (r_tup (r_cons r_var (r_cons r_bl r_nil))) (r_cons (r_tup (r_cons r_var (r_cons r_non r_nil))) (r_cons (r_tup (r_cons r_var r_nil)) (r_cons r_non (r_cons r_int (r_cons r_bl r_nil)))))))))))))
    (ss_cons (s_st C (r_op .add r_var (r_lst (r_cons (r_tup (r_cons r_var (r_cons r_str (r_cons r_int (r_cons r_int r_nil))))) (r_cons (r_tup (r_cons r_var (r_cons r_var (r_cons r_int (r_cons r_int r_nil))))) (r_cons (r_tup (r_cons r_var (r_cons r_str (r_cons r_int (r_cons r_int r_nil))))) (r_cons (r_tup (r_cons r_var (r_cons r_str (r_cons r_int (r_cons r_int r_nil))))) (r_cons (r_tup (r_cons r_var (r_cons r_str (r_cons r_int (r_cons r_str r_nil))))) r_nil))))))))
    (ss_cons (s_st C (r_op .add r_var (r_lst (r_cons (r_tup (r_cons r_str (r_cons (r_tup r_nil) r_nil))) (r_cons (r_tup (r_cons r_str (r_cons (r_lst r_nil) r_nil))) (r_cons (r_tup (r_cons r_str (r_cons (r_tup r_nil) r_nil))) (r_cons (r_tup (r_cons r_str (r_cons (r_tup (r_cons r_non r_nil)) r_nil))) (r_cons (r_lst r_nil) (r_cons r_d0 (r_cons (r_tup r_nil) (r_cons r_str (r_cons r_str (r_cons r_str (r_cons r_str (r_cons r_str r_nil)))))))))))))))
    (ss_cons (s_st C (r_add r_var (r_lst (r_cons (r_tup (r_cons r_str (r_cons r_str (r_cons (r_tup (r_cons r_str (r_cons r_int r_nil))) (r_cons (r_tup (r_cons r_var (r_cons r_int r_nil))) r_nil))))) (r_cons (r_tup (r_cons r_str (r_cons r_str (r_cons (r_tup (r_cons r_str (r_cons r_int r_nil))) (r_cons (r_tup (r_cons r_str (r_cons r_int r_nil))) r_nil))))) r_nil)))))
    (ss_cons (s_ex (r_append r_var (r_cons (r_tup (r_cons r_str (r_cons r_str (r_cons (r_tup (r_cons r_var (r_cons r_int r_nil))) (r_cons (r_tup (r_cons r_str (r_cons r_int r_nil))) r_nil))))) r_nil)))
    (ss_cons (s_st C (r_add r_var (r_lst (r_cons (r_tup (r_cons r_str (r_cons (r_tup (r_cons r_str r_nil)) (r_cons (r_tup (r_cons r_str (r_cons (r_tup r_nil) r_nil))) (r_cons (r_tup (r_cons r_str (r_cons (r_tup r_nil) r_nil))) r_nil))))) (r_cons (r_tup (r_cons r_str r_nil)) (r_cons (r_tup (r_cons r_str (r_cons r_str r_nil))) (r_cons (r_tup (r_cons r_str (r_cons r_str r_nil))) (r_cons (r_tup (r_cons r_var (r_cons r_str r_nil))) (r_cons (r_lst (r_cons r_str r_nil)) r_nil)))))))))
    (ss_cons (s_st C (r_op .add r_var (r_lst (r_cons r_str (r_cons r_str (r_cons r_str (r_cons r_str (r_cons r_str (r_cons r_str (r_cons r_str (r_cons (r_tup (r_cons r_str (r_cons r_str (r_cons (r_tup (r_cons r_str (r_cons r_int r_nil))) (r_cons (r_tup (r_cons r_var (r_cons r_int r_nil))) r_nil))))) (r_cons r_int (r_cons (r_neg r_int) r_nil)))))))))))))
    (ss_one (s_rt (r_call C (W.f 5) W.g5 W.k5 (r_cons r_var (r_cons r_var r_nil))))))))))))))
end
end k05

set_option maxRecDepth 100000
set_option maxHeartbeats 0
namespace k05
open Lt PySem PySem.Spec L2
theorem wf {K : PySem.W.Frag} {h : Heap} {mg : Str → Option Value} (X : K.In h) (G : h.Ns mainGlobals mg) (c : He.SaysD fa fn K) (t : ts K = true) : Wf K mg where
  g0 := He.glo_ok X G (c.fact 0 rfl)
  k0 := (c.def_ 0 (d := dd0) rfl).elim fun _ F => F.kp
  g1 := He.glo_ok X G (c.fact 1 rfl)
  k1 := (c.def_ 1 (d := dd1) rfl).elim fun _ F => F.kp
  g2 := He.glo_ok X G (c.fact 2 rfl)
  k2 := (c.def_ 2 (d := dd2) rfl).elim fun _ F => F.kp
  g3 := He.glo_ok X G (c.fact 3 rfl)
  k3 := (c.def_ 3 (d := dd3) rfl).elim fun _ F => F.kp
  g4 := He.glo_ok X G (c.fact 4 rfl)
  k4 := (c.def_ 4 (d := dd4) rfl).elim fun _ F => F.kp
  g5 := He.glo_ok X G (c.fact 5 rfl)
  k5 := (c.def_ 5 (d := dd5) rfl).elim fun _ F => F.kp
  g6 := He.glo_ok X G (c.fact 6 rfl)
  k6 := (c.def_ 6 (d := dd6) rfl).elim fun _ F => F.kp
  g8 := He.glo_ok X G (c.fact 7 rfl)
  k8 := (c.def_ 8 (d := dd8) rfl).elim fun _ F => F.kp
  g9 := He.glo_ok X G (c.fact 8 rfl)
  k9 := (c.def_ 9 (d := dd9) rfl).elim fun _ F => F.kp
  g10 := He.glo_ok X G (c.fact 9 rfl)
  k10 := (c.def_ 10 (d := dd10) rfl).elim fun _ F => F.kp
  g11 := He.glo_ok X G (c.fact 10 rfl)
  k11 := (c.def_ 11 (d := dd11) rfl).elim fun _ F => F.kp
  g12 := He.glo_ok X G (c.fact 11 rfl)
  k12 := (c.def_ 12 (d := dd12) rfl).elim fun _ F => F.kp
  g13 := He.glo_ok X G (c.fact 12 rfl)
  k13 := (c.def_ 13 (d := dd13) rfl).elim fun _ F => F.kp
  g14 := He.glo_ok X G (c.fact 13 rfl)
  k14 := (c.def_ 14 (d := dd14) rfl).elim fun _ F => F.kp
  g15 := He.glo_ok X G (c.fact 14 rfl)
  k15 := (c.def_ 15 (d := dd15) rfl).elim fun _ F => F.kp
  g16 := He.glo_ok X G (c.fact 15 rfl)
  k16 := (c.def_ 16 (d := dd16) rfl).elim fun _ F => F.kp
  g17 := He.glo_ok X G (c.fact 16 rfl)
  k17 := (c.def_ 17 (d := dd17) rfl).elim fun _ F => F.kp
  g18 := He.glo_ok X G (c.fact 17 rfl)
  k18 := (c.def_ 18 (d := dd18) rfl).elim fun _ F => F.kp
  g19 := He.glo_ok X G (c.fact 18 rfl)
  k19 := (c.def_ 19 (d := dd19) rfl).elim fun _ F => F.kp
  g20 := He.glo_ok X G (c.fact 19 rfl)
  k20 := (c.def_ 20 (d := dd20) rfl).elim fun _ F => F.kp
  g21 := He.glo_ok X G (c.fact 20 rfl)
  k21 := (c.def_ 21 (d := dd21) rfl).elim fun _ F => F.kp
  g22 := He.glo_ok X G (c.fact 21 rfl)
  k22 := (c.def_ 22 (d := dd22) rfl).elim fun _ F => F.kp
  g23 := He.glo_ok X G (c.fact 22 rfl)
  k23 := (c.def_ 23 (d := dd23) rfl).elim fun _ F => F.kp
  g24 := He.glo_ok X G (c.fact 23 rfl)
  k24 := (c.def_ 24 (d := dd24) rfl).elim fun _ F => F.kp
  g25 := He.glo_ok X G (c.fact 24 rfl)
  k25 := (c.def_ 25 (d := dd25) rfl).elim fun _ F => F.kp
  g26 := He.glo_ok X G (c.fact 25 rfl)
  k26 := (c.def_ 26 (d := dd26) rfl).elim fun _ F => F.kp
  g27 := He.glo_ok X G (c.fact 26 rfl)
  k27 := (c.def_ 27 (d := dd27) rfl).elim fun _ F => F.kp
  g28 := He.glo_ok X G (c.fact 27 rfl)
  k28 := (c.def_ 28 (d := dd28) rfl).elim fun _ F => F.kp
  g29 := He.glo_ok X G (c.fact 28 rfl)
  k29 := (c.def_ 29 (d := dd29) rfl).elim fun _ F => F.kp
  g30 := He.glo_ok X G (c.fact 29 rfl)
  k30 := (c.def_ 30 (d := dd30) rfl).elim fun _ F => F.kp
  g31 := He.glo_ok X G (c.fact 30 rfl)
  k31 := (c.def_ 31 (d := dd31) rfl).elim fun _ F => F.kp
  g33 := He.glo_ok X G (c.fact 31 rfl)
  k33 := (c.def_ 33 (d := dd33) rfl).elim fun _ F => F.kp
  g34 := He.glo_ok X G (c.fact 32 rfl)
  k34 := (c.def_ 34 (d := dd34) rfl).elim fun _ F => F.kp
  g35 := He.glo_ok X G (c.fact 33 rfl)
  k35 := (c.def_ 35 (d := dd35) rfl).elim fun _ F => F.kp
  g36 := He.glo_ok X G (c.fact 34 rfl)
  k36 := (c.def_ 36 (d := dd36) rfl).elim fun _ F => F.kp
  g37 := He.glo_ok X G (c.fact 35 rfl)
  k37 := (c.def_ 37 (d := dd37) rfl).elim fun _ F => F.kp
  g38 := He.glo_ok X G (c.fact 36 rfl)
  k38 := (c.def_ 38 (d := dd38) rfl).elim fun _ F => F.kp
  g40 := He.glo_ok X G (c.fact 37 rfl)
  k40 := (c.def_ 40 (d := dd40) rfl).elim fun _ F => F.kp
  g41 := He.glo_ok X G (c.fact 38 rfl)
  k41 := (c.def_ 41 (d := dd41) rfl).elim fun _ F => F.kp
  g42 := He.glo_ok X G (c.fact 39 rfl)
  k42 := (c.def_ 42 (d := dd42) rfl).elim fun _ F => F.kp
  g43 := He.glo_ok X G (c.fact 40 rfl)
  k43 := (c.def_ 43 (d := dd43) rfl).elim fun _ F => F.kp
  g44 := He.glo_ok X G (c.fact 41 rfl)
  k44 := (c.def_ 44 (d := dd44) rfl).elim fun _ F => F.kp
  g45 := He.glo_ok X G (c.fact 42 rfl)
  k45 := (c.def_ 45 (d := dd45) rfl).elim fun _ F => F.kp
  g46 := He.glo_ok X G (c.fact 43 rfl)
  k46 := (c.def_ 46 (d := dd46) rfl).elim fun _ F => F.kp
  g47 := He.glo_ok X G (c.fact 44 rfl)
  k47 := (c.def_ 47 (d := dd47) rfl).elim fun _ F => F.kp
  g48 := He.glo_ok X G (c.fact 45 rfl)
  k48 := (c.def_ 48 (d := dd48) rfl).elim fun _ F => F.kp
  g49 := He.glo_ok X G (c.fact 46 rfl)
  k49 := (c.def_ 49 (d := dd49) rfl).elim fun _ F => F.kp
  g50 := He.glo_ok X G (c.fact 47 rfl)
  k50 := (c.def_ 50 (d := dd50) rfl).elim fun _ F => F.kp
  g51 := He.glo_ok X G (c.fact 48 rfl)
  k51 := (c.def_ 51 (d := dd51) rfl).elim fun _ F => F.kp
  g52 := He.glo_ok X G (c.fact 49 rfl)
  k52 := (c.def_ 52 (d := dd52) rfl).elim fun _ F => F.kp
  g53 := He.glo_ok X G (c.fact 50 rfl)
  k53 := (c.def_ 53 (d := dd53) rfl).elim fun _ F => F.kp
  g54 := He.glo_ok X G (c.fact 51 rfl)
  k54 := (c.def_ 54 (d := dd54) rfl).elim fun _ F => F.kp
  g55 := He.glo_ok X G (c.fact 52 rfl)
  k55 := (c.def_ 55 (d := dd55) rfl).elim fun _ F => F.kp
  g56 := He.glo_ok X G (c.fact 53 rfl)
  k56 := (c.def_ 56 (d := dd56) rfl).elim fun _ F => F.kp
  g57 := He.glo_ok X G (c.fact 54 rfl)
  k57 := (c.def_ 57 (d := dd57) rfl).elim fun _ F => F.kp
  g58 := He.glo_ok X G (c.fact 55 rfl)
  k58 := (c.def_ 58 (d := dd58) rfl).elim fun _ F => F.kp
  g59 := He.glo_ok X G (c.fact 56 rfl)
  k59 := (c.def_ 59 (d := dd59) rfl).elim fun _ F => F.kp
  g60 := He.glo_ok X G (c.fact 57 rfl)
  k60 := (c.def_ 60 (d := dd60) rfl).elim fun _ F => F.kp
  g61 := He.glo_ok X G (c.fact 58 rfl)
  k61 := (c.def_ 61 (d := dd61) rfl).elim fun _ F => F.kp
  g62 := He.glo_ok X G (c.fact 59 rfl)
  k62 := (c.def_ 62 (d := dd62) rfl).elim fun _ F => F.kp
  g63 := He.glo_ok X G (c.fact 60 rfl)
  k63 := (c.def_ 63 (d := dd63) rfl).elim fun _ F => F.kp
  g64 := He.glo_ok X G (c.fact 61 rfl)
  k64 := (c.def_ 64 (d := dd64) rfl).elim fun _ F => F.kp
  g65 := He.glo_ok X G (c.fact 62 rfl)
  k65 := (c.def_ 65 (d := dd65) rfl).elim fun _ F => F.kp
  n_abs := He.free_ok X G (c.fact 63 rfl)
  n_all := He.free_ok X G (c.fact 64 rfl)
  n_bool := He.free_ok X G (c.fact 65 rfl)
  n_dict := He.free_ok X G (c.fact 66 rfl)
  n_int := He.free_ok X G (c.fact 67 rfl)
  n_isinstance := He.free_ok X G (c.fact 68 rfl)
  n_len := He.free_ok X G (c.fact 69 rfl)
  n_list := He.free_ok X G (c.fact 70 rfl)
  n_max := He.free_ok X G (c.fact 71 rfl)
  n_min := He.free_ok X G (c.fact 72 rfl)
  n_range := He.free_ok X G (c.fact 73 rfl)
  n_repr := He.free_ok X G (c.fact 74 rfl)
  n_set := He.free_ok X G (c.fact 75 rfl)
  n_sorted := He.free_ok X G (c.fact 76 rfl)
  n_str := He.free_ok X G (c.fact 77 rfl)
  n_tuple := He.free_ok X G (c.fact 78 rfl)
  c_DEEP := He.int_ok X G (c.fact 79 rfl)
  c_GREATEST := He.int_ok X G (c.fact 80 rfl)
  c_GUARD_OPS := He.glo_ok X G (c.fact 81 rfl)
  d_GUARD_OPS := fun φ H => rv_tup (tupAt_ok (ts_at t 0 rfl)) (by decide) ⟨_, _, rfl, rv_str, ⟨_, _, rfl, rv_str, rfl⟩⟩
  c_LETTERS := He.str_ok X G (c.fact 82 rfl)
  c_MAX_ARRAYS := He.int_ok X G (c.fact 83 rfl)
  c_MAX_DEPTH := He.int_ok X G (c.fact 84 rfl)
  c_MAX_NAME := He.int_ok X G (c.fact 85 rfl)
  c_MAX_OTHERS := He.int_ok X G (c.fact 86 rfl)
  c_OPS := He.glo_ok X G (c.fact 87 rfl)
  d_OPS := fun φ H => rv_tup (tupAt_ok (ts_at t 1 rfl)) (by decide) ⟨_, _, rfl, rv_str, ⟨_, _, rfl, rv_str, ⟨_, _, rfl, rv_str, rfl⟩⟩⟩
  s_Frame := sclsB_ok (ts_at t 2 rfl)
  gc_Frame := He.glo_ok X G (c.fact 88 rfl)
  i_Frame := sisiB_ok (ts_at t 3 rfl)
  mk_Frame := He.mkr_ok (c.fact 89 rfl)
  h_Frame := (ownB_ok (ts_at t 4 rfl)).1
  t_Frame := (ownB_ok (ts_at t 4 rfl)).2
  s_Frame_own_arrays := slotB_ok (ts_at t 5 rfl)
  s_Frame_own_kinds := slotB_ok (ts_at t 6 rfl)
  s_Frame_own_length := slotB_ok (ts_at t 7 rfl)
  s_Frame_own_lengths := slotB_ok (ts_at t 8 rfl)
  s_Frame_own_positions := slotB_ok (ts_at t 9 rfl)
  s_Frame_own_values := slotB_ok (ts_at t 10 rfl)
  m_Frame_is_fresh := He.meth_ok (c.fact 90 rfl)
theorem ok0 {P : Program} {w : World} {K : PySem.W.Frag} {mg : Str → Option Value} {base : Heap} {k : Nat} (c : He.SaysD fa fn K) (t : ts K = true) (W : Wd P w K mg base k) : FnG P w K mg base (2 * (k + 1)) (adr K 0) (spOf K (ca K) (callS T (k + 1) 0)) := by
  obtain ⟨fd, F⟩ := c.def_ 0 (d := dd0) rfl
  exact fn_ok (ca := ca K) (d := d_law) (cf := callS T k) (N := ["script", "at", "keg", "sides", "good", "value", "frame", "own", "turn", "near"]) (ps := ["script"]) F ⟨rfl, rfl, rfl, by decide +kernel, rfl, by decide +kernel, by decide +kernel⟩ (binds_n (F.bindsN fun _ _ _ _ _ _ us hl => match us, hl with | [_], _ => rfl)) rfl rfl (fun _ _ => rfl) fun A outer s H cd C po => w0 W A outer s H cd C po
theorem ok1 {P : Program} {w : World} {K : PySem.W.Frag} {mg : Str → Option Value} {base : Heap} {k : Nat} (c : He.SaysD fa fn K) (t : ts K = true) (W : Wd P w K mg base k) : FnG P w K mg base (2 * (k + 1)) (adr K 1) (spOf K (ca K) (callS T (k + 1) 1)) := by
  obtain ⟨fd, F⟩ := c.def_ 1 (d := dd1) rfl
  exact fn_ok (ca := ca K) (d := d_u_law_keg) (cf := callS T k) (N := ["script", "at", "cell", "great", "seed"]) (ps := ["script", "at"]) F ⟨rfl, rfl, rfl, by decide +kernel, rfl, by decide +kernel, by decide +kernel⟩ (binds_n (F.bindsN fun _ _ _ _ _ _ us hl => match us, hl with | [_, _], _ => rfl)) rfl rfl (fun _ _ => rfl) fun A outer s H cd C po => w1 W A outer s H cd C po
theorem ok2 {P : Program} {w : World} {K : PySem.W.Frag} {mg : Str → Option Value} {base : Heap} {k : Nat} (c : He.SaysD fa fn K) (t : ts K = true) (W : Wd P w K mg base k) : FnG P w K mg base (2 * (k + 1)) (adr K 2) (spOf K (ca K) (callS T (k + 1) 2)) := by
  obtain ⟨fd, F⟩ := c.def_ 2 (d := dd2) rfl
  exact fn_ok (ca := ca K) (d := d_u_law_sides) (cf := callS T k) (N := ["keg", "most", "words", "arrays", "positions", "count", "lengths", "at"]) (ps := ["keg", "most"]) F ⟨rfl, rfl, rfl, by decide +kernel, rfl, by decide +kernel, by decide +kernel⟩ (binds_n (F.bindsN fun _ _ _ _ _ _ us hl => match us, hl with | [_, _], _ => rfl)) rfl rfl (fun _ _ => rfl) fun A outer s H cd C po => w2 W A outer s H cd C po
theorem ok3 {P : Program} {w : World} {K : PySem.W.Frag} {mg : Str → Option Value} {base : Heap} {k : Nat} (c : He.SaysD fa fn K) (t : ts K = true) (W : Wd P w K mg base k) : FnG P w K mg base (2 * (k + 1)) (adr K 3) (spOf K (ca K) (callS T (k + 1) 3)) := by
  obtain ⟨fd, F⟩ := c.def_ 3 (d := dd3) rfl
  exact fn_ok (ca := ca K) (d := d_u_law_choices) (cf := callS T k) (N := ["keg", "items", "count", "turn", "left", "found"]) (ps := ["keg", "items", "count"]) F ⟨rfl, rfl, rfl, by decide +kernel, rfl, by decide +kernel, by decide +kernel⟩ (binds_n (F.bindsN fun _ _ _ _ _ _ us hl => match us, hl with | [_, _, _], _ => rfl)) rfl rfl (fun _ _ => rfl) fun A outer s H cd C po => w3 W A outer s H cd C po
theorem ok4 {P : Program} {w : World} {K : PySem.W.Frag} {mg : Str → Option Value} {base : Heap} {k : Nat} (c : He.SaysD fa fn K) (t : ts K = true) (W : Wd P w K mg base k) : FnG P w K mg base (2 * (k + 1)) (adr K 4) (spOf K (ca K) (callS T (k + 1) 4)) := by
  obtain ⟨fd, F⟩ := c.def_ 4 (d := dd4) rfl
  exact fn_ok (ca := ca K) (d := d_u_law_tap) (cf := callS T k) (N := ["keg", "total", "one", "two", "three", "found"]) (ps := ["keg", "total"]) F ⟨rfl, rfl, rfl, by decide +kernel, rfl, by decide +kernel, by decide +kernel⟩ (binds_n (F.bindsN fun _ _ _ _ _ _ us hl => match us, hl with | [_, _], _ => rfl)) rfl rfl (fun _ _ => rfl) fun A outer s H cd C po => w4 W A outer s H cd C po
theorem ok5 {P : Program} {w : World} {K : PySem.W.Frag} {mg : Str → Option Value} {base : Heap} {k : Nat} (c : He.SaysD fa fn K) (t : ts K = true) (W : Wd P w K mg base k) : FnG P w K mg base (2 * (k + 1)) (adr K 5) (spOf K (ca K) (callS T (k + 1) 5)) := by
  obtain ⟨fd, F⟩ := c.def_ 5 (d := dd5) rfl
  exact fn_ok (ca := ca K) (d := d_u_law_choice) (cf := callS T k) (N := ["keg", "items"]) (ps := ["keg", "items"]) F ⟨rfl, rfl, rfl, by decide +kernel, rfl, by decide +kernel, by decide +kernel⟩ (binds_n (F.bindsN fun _ _ _ _ _ _ us hl => match us, hl with | [_, _], _ => rfl)) rfl rfl (fun _ _ => rfl) fun A outer s H cd C po => w5 W A outer s H cd C po
theorem ok6 {P : Program} {w : World} {K : PySem.W.Frag} {mg : Str → Option Value} {base : Heap} {k : Nat} (c : He.SaysD fa fn K) (t : ts K = true) (W : Wd P w K mg base k) : FnG P w K mg base (2 * (k + 1)) (adr K 6) (spOf K (ca K) (callS T (k + 1) 6)) := by
  obtain ⟨fd, F⟩ := c.def_ 6 (d := dd6) rfl
  exact fn_ok (ca := ca K) (d := d_u_law_frame_of) (cf := callS T k) (N := ["sides"]) (ps := ["sides"]) F ⟨rfl, rfl, rfl, by decide +kernel, rfl, by decide +kernel, by decide +kernel⟩ (binds_n (F.bindsN fun _ _ _ _ _ _ us hl => match us, hl with | [_], _ => rfl)) rfl rfl (fun _ _ => rfl) fun A outer s H cd C po => w6 W A outer s H cd C po
theorem ok7 {P : Program} {w : World} {K : PySem.W.Frag} {mg : Str → Option Value} {base : Heap} {k : Nat} (c : He.SaysD fa fn K) (t : ts K = true) (W : Wd P w K mg base k) : FnG P w K mg base (2 * (k + 1)) (adr K 7) (spOf K (ca K) (callS T (k + 1) 7)) := by
  obtain ⟨fd, F⟩ := c.def_ 7 (d := dd7) rfl
  exact fn_ok (ca := ca K) (d := d_Frame_init) (cf := callS T k) (N := ["self", "arrays", "positions", "values", "name", "length"]) (ps := ["self", "arrays", "positions", "values"]) F ⟨rfl, rfl, rfl, by decide +kernel, rfl, by decide +kernel, by decide +kernel⟩ (binds_n (F.bindsN fun _ _ _ _ _ _ us hl => match us, hl with | [_, _, _, _], _ => rfl)) rfl rfl (fun _ _ => rfl) fun A outer s H cd C po => w7 W A outer s H cd C po
theorem ok8 {P : Program} {w : World} {K : PySem.W.Frag} {mg : Str → Option Value} {base : Heap} {k : Nat} (c : He.SaysD fa fn K) (t : ts K = true) (W : Wd P w K mg base k) : FnG P w K mg base (2 * (k + 1)) (adr K 8) (spOf K (ca K) (callS T (k + 1) 8)) := by
  obtain ⟨fd, F⟩ := c.def_ 8 (d := dd8) rfl
  exact fn_ok (ca := ca K) (d := d_lengths_of) (cf := callS T k) (N := ["arrays", "name", "length"]) (ps := ["arrays"]) F ⟨rfl, rfl, rfl, by decide +kernel, rfl, by decide +kernel, by decide +kernel⟩ (binds_n (F.bindsN fun _ _ _ _ _ _ us hl => match us, hl with | [_], _ => rfl)) rfl rfl (fun _ _ => rfl) fun A outer s H cd C po => w8 W A outer s H cd C po
theorem ok9 {P : Program} {w : World} {K : PySem.W.Frag} {mg : Str → Option Value} {base : Heap} {k : Nat} (c : He.SaysD fa fn K) (t : ts K = true) (W : Wd P w K mg base k) : FnG P w K mg base (2 * (k + 1)) (adr K 9) (spOf K (ca K) (callS T (k + 1) 9)) := by
  obtain ⟨fd, F⟩ := c.def_ 9 (d := dd9) rfl
  exact fn_ok (ca := ca K) (d := d_are_frame) (cf := callS T k) (N := ["arrays", "positions", "values", "names", "array", "name", "length"]) (ps := ["arrays", "positions", "values"]) F ⟨rfl, rfl, rfl, by decide +kernel, rfl, by decide +kernel, by decide +kernel⟩ (binds_n (F.bindsN fun _ _ _ _ _ _ us hl => match us, hl with | [_, _, _], _ => rfl)) rfl rfl (fun _ _ => rfl) fun A outer s H cd C po => w9 W A outer s H cd C po
theorem ok10 {P : Program} {w : World} {K : PySem.W.Frag} {mg : Str → Option Value} {base : Heap} {k : Nat} (c : He.SaysD fa fn K) (t : ts K = true) (W : Wd P w K mg base k) : FnG P w K mg base (2 * (k + 1)) (adr K 10) (spOf K (ca K) (callS T (k + 1) 10)) := by
  obtain ⟨fd, F⟩ := c.def_ 10 (d := dd10) rfl
  exact fn_ok (ca := ca K) (d := d_are_names) (cf := callS T k) (N := ["value", "most", "name"]) (ps := ["value", "most"]) F ⟨rfl, rfl, rfl, by decide +kernel, rfl, by decide +kernel, by decide +kernel⟩ (binds_n (F.bindsN fun _ _ _ _ _ _ us hl => match us, hl with | [_, _], _ => rfl)) rfl rfl (fun _ _ => rfl) fun A outer s H cd C po => w10 W A outer s H cd C po
theorem ok11 {P : Program} {w : World} {K : PySem.W.Frag} {mg : Str → Option Value} {base : Heap} {k : Nat} (c : He.SaysD fa fn K) (t : ts K = true) (W : Wd P w K mg base k) : FnG P w K mg base (2 * (k + 1)) (adr K 11) (spOf K (ca K) (callS T (k + 1) 11)) := by
  obtain ⟨fd, F⟩ := c.def_ 11 (d := dd11) rfl
  exact fn_ok (ca := ca K) (d := d_is_name) (cf := callS T k) (N := ["value", "letter"]) (ps := ["value"]) F ⟨rfl, rfl, rfl, by decide +kernel, rfl, by decide +kernel, by decide +kernel⟩ (binds_n (F.bindsN fun _ _ _ _ _ _ us hl => match us, hl with | [_], _ => rfl)) rfl rfl (fun _ _ => rfl) fun A outer s H cd C po => w11 W A outer s H cd C po
theorem ok12 {P : Program} {w : World} {K : PySem.W.Frag} {mg : Str → Option Value} {base : Heap} {k : Nat} (c : He.SaysD fa fn K) (t : ts K = true) (W : Wd P w K mg base k) : FnG P w K mg base (2 * (k + 1)) (adr K 12) (spOf K (ca K) (callS T (k + 1) 12)) := by
  obtain ⟨fd, F⟩ := c.def_ 12 (d := dd12) rfl
  exact fn_ok (ca := ca K) (d := d_is_array) (cf := callS T k) (N := ["value"]) (ps := ["value"]) F ⟨rfl, rfl, rfl, by decide +kernel, rfl, by decide +kernel, by decide +kernel⟩ (binds_n (F.bindsN fun _ _ _ _ _ _ us hl => match us, hl with | [_], _ => rfl)) rfl rfl (fun _ _ => rfl) fun A outer s H cd C po => w12 W A outer s H cd C po
theorem ok13 {P : Program} {w : World} {K : PySem.W.Frag} {mg : Str → Option Value} {base : Heap} {k : Nat} (c : He.SaysD fa fn K) (t : ts K = true) (W : Wd P w K mg base k) : FnG P w K mg base (2 * (k + 1)) (adr K 13) (spOf K (ca K) (callS T (k + 1) 13)) := by
  obtain ⟨fd, F⟩ := c.def_ 13 (d := dd13) rfl
  exact fn_ok (ca := ca K) (d := d_u_law_own_names) (cf := callS T k) (N := ["keg", "sides", "names", "name"]) (ps := ["keg", "sides"]) F ⟨rfl, rfl, rfl, by decide +kernel, rfl, by decide +kernel, by decide +kernel⟩ (binds_n (F.bindsN fun _ _ _ _ _ _ us hl => match us, hl with | [_, _], _ => rfl)) rfl rfl (fun _ _ => rfl) fun A outer s H cd C po => w13 W A outer s H cd C po
theorem ok14 {P : Program} {w : World} {K : PySem.W.Frag} {mg : Str → Option Value} {base : Heap} {k : Nat} (c : He.SaysD fa fn K) (t : ts K = true) (W : Wd P w K mg base k) : FnG P w K mg base (2 * (k + 1)) (adr K 14) (spOf K (ca K) (callS T (k + 1) 14)) := by
  obtain ⟨fd, F⟩ := c.def_ 14 (d := dd14) rfl
  exact fn_ok (ca := ca K) (d := d_u_law_all_names) (cf := callS T k) (N := ["sides", "pair"]) (ps := ["sides"]) F ⟨rfl, rfl, rfl, by decide +kernel, rfl, by decide +kernel, by decide +kernel⟩ (binds_n (F.bindsN fun _ _ _ _ _ _ us hl => match us, hl with | [_], _ => rfl)) rfl rfl (fun _ _ => rfl) fun A outer s H cd C po => w14 W A outer s H cd C po
theorem ok15 {P : Program} {w : World} {K : PySem.W.Frag} {mg : Str → Option Value} {base : Heap} {k : Nat} (c : He.SaysD fa fn K) (t : ts K = true) (W : Wd P w K mg base k) : FnG P w K mg base (2 * (k + 1)) (adr K 15) (spOf K (ca K) (callS T (k + 1) 15)) := by
  obtain ⟨fd, F⟩ := c.def_ 15 (d := dd15) rfl
  exact fn_ok (ca := ca K) (d := d_u_law_claim) (cf := callS T k) (N := ["keg", "sides", "depth", "way", "own", "op", "parts", "turn"]) (ps := ["keg", "sides", "depth"]) F ⟨rfl, rfl, rfl, by decide +kernel, rfl, by decide +kernel, by decide +kernel⟩ (binds_n (F.bindsN fun _ _ _ _ _ _ us hl => match us, hl with | [_, _, _], _ => rfl)) rfl rfl (fun _ _ => rfl) fun A outer s H cd C po => w15 W A outer s H cd C po
theorem ok16 {P : Program} {w : World} {K : PySem.W.Frag} {mg : Str → Option Value} {base : Heap} {k : Nat} (c : He.SaysD fa fn K) (t : ts K = true) (W : Wd P w K mg base k) : FnG P w K mg base (2 * (k + 1)) (adr K 16) (spOf K (ca K) (callS T (k + 1) 16)) := by
  obtain ⟨fd, F⟩ := c.def_ 16 (d := dd16) rfl
  exact fn_ok (ca := ca K) (d := d_u_law_body) (cf := callS T k) (N := ["keg", "sides", "own", "depth", "way", "op", "parts", "turn"]) (ps := ["keg", "sides", "own", "depth"]) F ⟨rfl, rfl, rfl, by decide +kernel, rfl, by decide +kernel, by decide +kernel⟩ (binds_n (F.bindsN fun _ _ _ _ _ _ us hl => match us, hl with | [_, _, _, _], _ => rfl)) rfl rfl (fun _ _ => rfl) fun A outer s H cd C po => w16 W A outer s H cd C po
theorem ok17 {P : Program} {w : World} {K : PySem.W.Frag} {mg : Str → Option Value} {base : Heap} {k : Nat} (c : He.SaysD fa fn K) (t : ts K = true) (W : Wd P w K mg base k) : FnG P w K mg base (2 * (k + 1)) (adr K 17) (spOf K (ca K) (callS T (k + 1) 17)) := by
  obtain ⟨fd, F⟩ := c.def_ 17 (d := dd17) rfl
  exact fn_ok (ca := ca K) (d := d_u_law_worth) (cf := callS T k) (N := ["keg", "sides", "own", "way", "array", "at"]) (ps := ["keg", "sides", "own"]) F ⟨rfl, rfl, rfl, by decide +kernel, rfl, by decide +kernel, by decide +kernel⟩ (binds_n (F.bindsN fun _ _ _ _ _ _ us hl => match us, hl with | [_, _, _], _ => rfl)) rfl rfl (fun _ _ => rfl) fun A outer s H cd C po => w17 W A outer s H cd C po
theorem ok18 {P : Program} {w : World} {K : PySem.W.Frag} {mg : Str → Option Value} {base : Heap} {k : Nat} (c : He.SaysD fa fn K) (t : ts K = true) (W : Wd P w K mg base k) : FnG P w K mg base (2 * (k + 1)) (adr K 18) (spOf K (ca K) (callS T (k + 1) 18)) := by
  obtain ⟨fd, F⟩ := c.def_ 18 (d := dd18) rfl
  exact fn_ok (ca := ca K) (d := d_u_law_place) (cf := callS T k) (N := ["keg", "sides"]) (ps := ["keg", "sides"]) F ⟨rfl, rfl, rfl, by decide +kernel, rfl, by decide +kernel, by decide +kernel⟩ (binds_n (F.bindsN fun _ _ _ _ _ _ us hl => match us, hl with | [_, _], _ => rfl)) rfl rfl (fun _ _ => rfl) fun A outer s H cd C po => w18 W A outer s H cd C po
theorem ok19 {P : Program} {w : World} {K : PySem.W.Frag} {mg : Str → Option Value} {base : Heap} {k : Nat} (c : He.SaysD fa fn K) (t : ts K = true) (W : Wd P w K mg base k) : FnG P w K mg base (2 * (k + 1)) (adr K 19) (spOf K (ca K) (callS T (k + 1) 19)) := by
  obtain ⟨fd, F⟩ := c.def_ 19 (d := dd19) rfl
  exact fn_ok (ca := ca K) (d := d_u_law_number) (cf := callS T k) (N := ["keg"]) (ps := ["keg"]) F ⟨rfl, rfl, rfl, by decide +kernel, rfl, by decide +kernel, by decide +kernel⟩ (binds_n (F.bindsN fun _ _ _ _ _ _ us hl => match us, hl with | [_], _ => rfl)) rfl rfl (fun _ _ => rfl) fun A outer s H cd C po => w19 W A outer s H cd C po
theorem ok20 {P : Program} {w : World} {K : PySem.W.Frag} {mg : Str → Option Value} {base : Heap} {k : Nat} (c : He.SaysD fa fn K) (t : ts K = true) (W : Wd P w K mg base k) : FnG P w K mg base (2 * (k + 1)) (adr K 20) (spOf K (ca K) (callS T (k + 1) 20)) := by
  obtain ⟨fd, F⟩ := c.def_ 20 (d := dd20) rfl
  exact fn_ok (ca := ca K) (d := d_u_law_place_names) (cf := callS T k) (N := ["sides", "pair"]) (ps := ["sides"]) F ⟨rfl, rfl, rfl, by decide +kernel, rfl, by decide +kernel, by decide +kernel⟩ (binds_n (F.bindsN fun _ _ _ _ _ _ us hl => match us, hl with | [_], _ => rfl)) rfl rfl (fun _ _ => rfl) fun A outer s H cd C po => w20 W A outer s H cd C po
theorem ok21 {P : Program} {w : World} {K : PySem.W.Frag} {mg : Str → Option Value} {base : Heap} {k : Nat} (c : He.SaysD fa fn K) (t : ts K = true) (W : Wd P w K mg base k) : FnG P w K mg base (2 * (k + 1)) (adr K 21) (spOf K (ca K) (callS T (k + 1) 21)) := by
  obtain ⟨fd, F⟩ := c.def_ 21 (d := dd21) rfl
  exact fn_ok (ca := ca K) (d := d_u_law_guard) (cf := callS T k) (N := ["keg", "sides", "own", "depth", "pair", "parts", "one", "other", "turn"]) (ps := ["keg", "sides", "own", "depth"]) F ⟨rfl, rfl, rfl, by decide +kernel, rfl, by decide +kernel, by decide +kernel⟩ (binds_n (F.bindsN fun _ _ _ _ _ _ us hl => match us, hl with | [_, _, _, _], _ => rfl)) rfl rfl (fun _ _ => rfl) fun A outer s H cd C po => w21 W A outer s H cd C po
theorem ok22 {P : Program} {w : World} {K : PySem.W.Frag} {mg : Str → Option Value} {base : Heap} {k : Nat} (c : He.SaysD fa fn K) (t : ts K = true) (W : Wd P w K mg base k) : FnG P w K mg base (2 * (k + 1)) (adr K 22) (spOf K (ca K) (callS T (k + 1) 22)) := by
  obtain ⟨fd, F⟩ := c.def_ 22 (d := dd22) rfl
  exact fn_ok (ca := ca K) (d := d_u_law_limits_right) (cf := callS T k) (N := ["keg", "sides", "frame", "value", "turn", "inner", "whole", "more"]) (ps := ["keg", "sides", "frame"]) F ⟨rfl, rfl, rfl, by decide +kernel, rfl, by decide +kernel, by decide +kernel⟩ (binds_n (F.bindsN fun _ _ _ _ _ _ us hl => match us, hl with | [_, _, _], _ => rfl)) rfl rfl (fun _ _ => rfl) fun A outer s H cd C po => w22 W A outer s H cd C po
theorem ok23 {P : Program} {w : World} {K : PySem.W.Frag} {mg : Str → Option Value} {base : Heap} {k : Nat} (c : He.SaysD fa fn K) (t : ts K = true) (W : Wd P w K mg base k) : FnG P w K mg base (2 * (k + 1)) (adr K 23) (spOf K (ca K) (callS T (k + 1) 23)) := by
  obtain ⟨fd, F⟩ := c.def_ 23 (d := dd23) rfl
  exact fn_ok (ca := ca K) (d := d_u_law_deep) (cf := callS T k) (N := ["value", "parts", "part"]) (ps := ["value"]) F ⟨rfl, rfl, rfl, by decide +kernel, rfl, by decide +kernel, by decide +kernel⟩ (binds_n (F.bindsN fun _ _ _ _ _ _ us hl => match us, hl with | [_], _ => rfl)) rfl rfl (fun _ _ => rfl) fun A outer s H cd C po => w23 W A outer s H cd C po
theorem ok24 {P : Program} {w : World} {K : PySem.W.Frag} {mg : Str → Option Value} {base : Heap} {k : Nat} (c : He.SaysD fa fn K) (t : ts K = true) (W : Wd P w K mg base k) : FnG P w K mg base (2 * (k + 1)) (adr K 24) (spOf K (ca K) (callS T (k + 1) 24)) := by
  obtain ⟨fd, F⟩ := c.def_ 24 (d := dd24) rfl
  exact fn_ok (ca := ca K) (d := d_is_claim) (cf := callS T k) (N := ["frame", "value"]) (ps := ["frame", "value"]) F ⟨rfl, rfl, rfl, by decide +kernel, rfl, by decide +kernel, by decide +kernel⟩ (binds_n (F.bindsN fun _ _ _ _ _ _ us hl => match us, hl with | [_, _], _ => rfl)) rfl rfl (fun _ _ => rfl) fun A outer s H cd C po => w24 W A outer s H cd C po
theorem ok25 {P : Program} {w : World} {K : PySem.W.Frag} {mg : Str → Option Value} {base : Heap} {k : Nat} (c : He.SaysD fa fn K) (t : ts K = true) (W : Wd P w K mg base k) : FnG P w K mg base (2 * (k + 1)) (adr K 25) (spOf K (ca K) (callS T (k + 1) 25)) := by
  obtain ⟨fd, F⟩ := c.def_ 25 (d := dd25) rfl
  exact fn_ok (ca := ca K) (d := d_require_frame) (cf := callS T k) (N := ["value"]) (ps := ["value"]) F ⟨rfl, rfl, rfl, by decide +kernel, rfl, by decide +kernel, by decide +kernel⟩ (binds_n (F.bindsN fun _ _ _ _ _ _ us hl => match us, hl with | [_], _ => rfl)) rfl rfl (fun _ _ => rfl) fun A outer s H cd C po => w25 W A outer s H cd C po
theorem ok26 {P : Program} {w : World} {K : PySem.W.Frag} {mg : Str → Option Value} {base : Heap} {k : Nat} (c : He.SaysD fa fn K) (t : ts K = true) (W : Wd P w K mg base k) : FnG P w K mg base (2 * (k + 1)) (adr K 26) (spOf K (ca K) (callS T (k + 1) 26)) := by
  obtain ⟨fd, F⟩ := c.def_ 26 (d := dd26) rfl
  exact fn_ok (ca := ca K) (d := d_is_claim_for) (cf := callS T k) (N := ["frame", "value"]) (ps := ["frame", "value"]) F ⟨rfl, rfl, rfl, by decide +kernel, rfl, by decide +kernel, by decide +kernel⟩ (binds_n (F.bindsN fun _ _ _ _ _ _ us hl => match us, hl with | [_, _], _ => rfl)) rfl rfl (fun _ _ => rfl) fun A outer s H cd C po => w26 W A outer s H cd C po
theorem ok27 {P : Program} {w : World} {K : PySem.W.Frag} {mg : Str → Option Value} {base : Heap} {k : Nat} (c : He.SaysD fa fn K) (t : ts K = true) (W : Wd P w K mg base k) : FnG P w K mg base (2 * (k + 1)) (adr K 27) (spOf K (ca K) (callS T (k + 1) 27)) := by
  obtain ⟨fd, F⟩ := c.def_ 27 (d := dd27) rfl
  exact fn_ok (ca := ca K) (d := d_is_claim_in) (cf := callS T k) (N := ["frame", "value", "left", "part"]) (ps := ["frame", "value", "left"]) F ⟨rfl, rfl, rfl, by decide +kernel, rfl, by decide +kernel, by decide +kernel⟩ (binds_n (F.bindsN fun _ _ _ _ _ _ us hl => match us, hl with | [_, _, _], _ => rfl)) rfl rfl (fun _ _ => rfl) fun A outer s H cd C po => w27 W A outer s H cd C po
theorem ok28 {P : Program} {w : World} {K : PySem.W.Frag} {mg : Str → Option Value} {base : Heap} {k : Nat} (c : He.SaysD fa fn K) (t : ts K = true) (W : Wd P w K mg base k) : FnG P w K mg base (2 * (k + 1)) (adr K 28) (spOf K (ca K) (callS T (k + 1) 28)) := by
  obtain ⟨fd, F⟩ := c.def_ 28 (d := dd28) rfl
  exact fn_ok (ca := ca K) (d := d_is_joined) (cf := callS T k) (N := ["value"]) (ps := ["value"]) F ⟨rfl, rfl, rfl, by decide +kernel, rfl, by decide +kernel, by decide +kernel⟩ (binds_n (F.bindsN fun _ _ _ _ _ _ us hl => match us, hl with | [_], _ => rfl)) rfl rfl (fun _ _ => rfl) fun A outer s H cd C po => w28 W A outer s H cd C po
theorem ok29 {P : Program} {w : World} {K : PySem.W.Frag} {mg : Str → Option Value} {base : Heap} {k : Nat} (c : He.SaysD fa fn K) (t : ts K = true) (W : Wd P w K mg base k) : FnG P w K mg base (2 * (k + 1)) (adr K 29) (spOf K (ca K) (callS T (k + 1) 29)) := by
  obtain ⟨fd, F⟩ := c.def_ 29 (d := dd29) rfl
  exact fn_ok (ca := ca K) (d := d_has_shape) (cf := callS T k) (N := ["value", "kind", "size"]) (ps := ["value", "kind", "size"]) F ⟨rfl, rfl, rfl, by decide +kernel, rfl, by decide +kernel, by decide +kernel⟩ (binds_n (F.bindsN fun _ _ _ _ _ _ us hl => match us, hl with | [_, _, _], _ => rfl)) rfl rfl (fun _ _ => rfl) fun A outer s H cd C po => w29 W A outer s H cd C po
theorem ok30 {P : Program} {w : World} {K : PySem.W.Frag} {mg : Str → Option Value} {base : Heap} {k : Nat} (c : He.SaysD fa fn K) (t : ts K = true) (W : Wd P w K mg base k) : FnG P w K mg base (2 * (k + 1)) (adr K 30) (spOf K (ca K) (callS T (k + 1) 30)) := by
  obtain ⟨fd, F⟩ := c.def_ 30 (d := dd30) rfl
  exact fn_ok (ca := ca K) (d := d_is_all_in) (cf := callS T k) (N := ["frame", "value", "left", "own"]) (ps := ["frame", "value", "left"]) F ⟨rfl, rfl, rfl, by decide +kernel, rfl, by decide +kernel, by decide +kernel⟩ (binds_n (F.bindsN fun _ _ _ _ _ _ us hl => match us, hl with | [_, _, _], _ => rfl)) rfl rfl (fun _ _ => rfl) fun A outer s H cd C po => w30 W A outer s H cd C po
theorem ok31 {P : Program} {w : World} {K : PySem.W.Frag} {mg : Str → Option Value} {base : Heap} {k : Nat} (c : He.SaysD fa fn K) (t : ts K = true) (W : Wd P w K mg base k) : FnG P w K mg base (2 * (k + 1)) (adr K 31) (spOf K (ca K) (callS T (k + 1) 31)) := by
  obtain ⟨fd, F⟩ := c.def_ 31 (d := dd31) rfl
  exact fn_ok (ca := ca K) (d := d_are_own) (cf := callS T k) (N := ["frame", "value", "name"]) (ps := ["frame", "value"]) F ⟨rfl, rfl, rfl, by decide +kernel, rfl, by decide +kernel, by decide +kernel⟩ (binds_n (F.bindsN fun _ _ _ _ _ _ us hl => match us, hl with | [_, _], _ => rfl)) rfl rfl (fun _ _ => rfl) fun A outer s H cd C po => w31 W A outer s H cd C po
theorem ok32 {P : Program} {w : World} {K : PySem.W.Frag} {mg : Str → Option Value} {base : Heap} {k : Nat} (c : He.SaysD fa fn K) (t : ts K = true) (W : Wd P w K mg base k) : FnG P w K mg base (2 * (k + 1)) (adr K 32) (spOf K (ca K) (callS T (k + 1) 32)) := by
  obtain ⟨fd, F⟩ := c.def_ 32 (d := dd32) rfl
  exact fn_ok (ca := ca K) (d := d_Frame_is_fresh) (cf := callS T k) (N := ["self", "value"]) (ps := ["self", "value"]) F ⟨rfl, rfl, rfl, by decide +kernel, rfl, by decide +kernel, by decide +kernel⟩ (binds_n (F.bindsN fun _ _ _ _ _ _ us hl => match us, hl with | [_, _], _ => rfl)) rfl rfl (fun _ _ => rfl) fun A outer s H cd C po => w32 W A outer s H cd C po
theorem ok33 {P : Program} {w : World} {K : PySem.W.Frag} {mg : Str → Option Value} {base : Heap} {k : Nat} (c : He.SaysD fa fn K) (t : ts K = true) (W : Wd P w K mg base k) : FnG P w K mg base (2 * (k + 1)) (adr K 33) (spOf K (ca K) (callS T (k + 1) 33)) := by
  obtain ⟨fd, F⟩ := c.def_ 33 (d := dd33) rfl
  exact fn_ok (ca := ca K) (d := d_is_guard_in) (cf := callS T k) (N := ["frame", "own", "value", "left", "part"]) (ps := ["frame", "own", "value", "left"]) F ⟨rfl, rfl, rfl, by decide +kernel, rfl, by decide +kernel, by decide +kernel⟩ (binds_n (F.bindsN fun _ _ _ _ _ _ us hl => match us, hl with | [_, _, _, _], _ => rfl)) rfl rfl (fun _ _ => rfl) fun A outer s H cd C po => w33 W A outer s H cd C po
theorem ok34 {P : Program} {w : World} {K : PySem.W.Frag} {mg : Str → Option Value} {base : Heap} {k : Nat} (c : He.SaysD fa fn K) (t : ts K = true) (W : Wd P w K mg base k) : FnG P w K mg base (2 * (k + 1)) (adr K 34) (spOf K (ca K) (callS T (k + 1) 34)) := by
  obtain ⟨fd, F⟩ := c.def_ 34 (d := dd34) rfl
  exact fn_ok (ca := ca K) (d := d_is_op) (cf := callS T k) (N := ["value", "ops"]) (ps := ["value", "ops"]) F ⟨rfl, rfl, rfl, by decide +kernel, rfl, by decide +kernel, by decide +kernel⟩ (binds_n (F.bindsN fun _ _ _ _ _ _ us hl => match us, hl with | [_, _], _ => rfl)) rfl rfl (fun _ _ => rfl) fun A outer s H cd C po => w34 W A outer s H cd C po
theorem ok35 {P : Program} {w : World} {K : PySem.W.Frag} {mg : Str → Option Value} {base : Heap} {k : Nat} (c : He.SaysD fa fn K) (t : ts K = true) (W : Wd P w K mg base k) : FnG P w K mg base (2 * (k + 1)) (adr K 35) (spOf K (ca K) (callS T (k + 1) 35)) := by
  obtain ⟨fd, F⟩ := c.def_ 35 (d := dd35) rfl
  exact fn_ok (ca := ca K) (d := d_is_guard_term) (cf := callS T k) (N := ["frame", "own", "value"]) (ps := ["frame", "own", "value"]) F ⟨rfl, rfl, rfl, by decide +kernel, rfl, by decide +kernel, by decide +kernel⟩ (binds_n (F.bindsN fun _ _ _ _ _ _ us hl => match us, hl with | [_, _, _], _ => rfl)) rfl rfl (fun _ _ => rfl) fun A outer s H cd C po => w35 W A outer s H cd C po
theorem ok36 {P : Program} {w : World} {K : PySem.W.Frag} {mg : Str → Option Value} {base : Heap} {k : Nat} (c : He.SaysD fa fn K) (t : ts K = true) (W : Wd P w K mg base k) : FnG P w K mg base (2 * (k + 1)) (adr K 36) (spOf K (ca K) (callS T (k + 1) 36)) := by
  obtain ⟨fd, F⟩ := c.def_ 36 (d := dd36) rfl
  exact fn_ok (ca := ca K) (d := d_is_position) (cf := callS T k) (N := ["frame", "value", "own"]) (ps := ["frame", "value", "own"]) F ⟨rfl, rfl, rfl, by decide +kernel, rfl, by decide +kernel, by decide +kernel⟩ (binds_1 (by decide) (F.binds1 2 0 (by simp [dd36, He.DefD.dvs]) rfl fun _ _ _ _ _ _ _ us its h1 h2 => match us, its, h1, h2 with | [_, _], [_], _, _ => ⟨_, rfl, rfl⟩) (F.binds1 3 1 (by simp [dd36, He.DefD.dvs]) rfl fun _ _ _ _ _ _ _ us its h1 h2 => match us, its, h1, h2 with | [_, _, _], [_], _, _ => ⟨_, rfl, rfl⟩)) rfl rfl (fun φ H => ⟨_, _, rfl, rv_tup (tupAt_ok (ts_at t 11 rfl)) (by decide) rfl, rfl⟩) fun A outer s H cd C po => w36 W A outer s H cd C po
theorem ok37 {P : Program} {w : World} {K : PySem.W.Frag} {mg : Str → Option Value} {base : Heap} {k : Nat} (c : He.SaysD fa fn K) (t : ts K = true) (W : Wd P w K mg base k) : FnG P w K mg base (2 * (k + 1)) (adr K 37) (spOf K (ca K) (callS T (k + 1) 37)) := by
  obtain ⟨fd, F⟩ := c.def_ 37 (d := dd37) rfl
  exact fn_ok (ca := ca K) (d := d_is_place_name) (cf := callS T k) (N := ["frame", "value", "own"]) (ps := ["frame", "value", "own"]) F ⟨rfl, rfl, rfl, by decide +kernel, rfl, by decide +kernel, by decide +kernel⟩ (binds_n (F.bindsN fun _ _ _ _ _ _ us hl => match us, hl with | [_, _, _], _ => rfl)) rfl rfl (fun _ _ => rfl) fun A outer s H cd C po => w37 W A outer s H cd C po
theorem ok38 {P : Program} {w : World} {K : PySem.W.Frag} {mg : Str → Option Value} {base : Heap} {k : Nat} (c : He.SaysD fa fn K) (t : ts K = true) (W : Wd P w K mg base k) : FnG P w K mg base (2 * (k + 1)) (adr K 38) (spOf K (ca K) (callS T (k + 1) 38)) := by
  obtain ⟨fd, F⟩ := c.def_ 38 (d := dd38) rfl
  exact fn_ok (ca := ca K) (d := d_has_kind) (cf := callS T k) (N := ["frame", "name", "kind"]) (ps := ["frame", "name", "kind"]) F ⟨rfl, rfl, rfl, by decide +kernel, rfl, by decide +kernel, by decide +kernel⟩ (binds_n (F.bindsN fun _ _ _ _ _ _ us hl => match us, hl with | [_, _, _], _ => rfl)) rfl rfl (fun _ _ => rfl) fun A outer s H cd C po => w38 W A outer s H cd C po
theorem ok39 {P : Program} {w : World} {K : PySem.W.Frag} {mg : Str → Option Value} {base : Heap} {k : Nat} (c : He.SaysD fa fn K) (t : ts K = true) (W : Wd P w K mg base k) : FnG P w K mg base (2 * (k + 1)) (adr K 39) (spOf K (ca K) (callS T (k + 1) 39)) := by
  obtain ⟨fd, F⟩ := c.def_ 39 (d := dd39) rfl
  exact fn_ok (ca := ca K) (d := d_Frame_contains) (cf := callS T k) (N := ["self", "value"]) (ps := ["self", "value"]) F ⟨rfl, rfl, rfl, by decide +kernel, rfl, by decide +kernel, by decide +kernel⟩ (binds_n (F.bindsN fun _ _ _ _ _ _ us hl => match us, hl with | [_, _], _ => rfl)) rfl rfl (fun _ _ => rfl) fun A outer s H cd C po => w39 W A outer s H cd C po
theorem ok40 {P : Program} {w : World} {K : PySem.W.Frag} {mg : Str → Option Value} {base : Heap} {k : Nat} (c : He.SaysD fa fn K) (t : ts K = true) (W : Wd P w K mg base k) : FnG P w K mg base (2 * (k + 1)) (adr K 40) (spOf K (ca K) (callS T (k + 1) 40)) := by
  obtain ⟨fd, F⟩ := c.def_ 40 (d := dd40) rfl
  exact fn_ok (ca := ca K) (d := d_is_integer) (cf := callS T k) (N := ["value"]) (ps := ["value"]) F ⟨rfl, rfl, rfl, by decide +kernel, rfl, by decide +kernel, by decide +kernel⟩ (binds_n (F.bindsN fun _ _ _ _ _ _ us hl => match us, hl with | [_], _ => rfl)) rfl rfl (fun _ _ => rfl) fun A outer s H cd C po => w40 W A outer s H cd C po
theorem ok41 {P : Program} {w : World} {K : PySem.W.Frag} {mg : Str → Option Value} {base : Heap} {k : Nat} (c : He.SaysD fa fn K) (t : ts K = true) (W : Wd P w K mg base k) : FnG P w K mg base (2 * (k + 1)) (adr K 41) (spOf K (ca K) (callS T (k + 1) 41)) := by
  obtain ⟨fd, F⟩ := c.def_ 41 (d := dd41) rfl
  exact fn_ok (ca := ca K) (d := d_is_body_in) (cf := callS T k) (N := ["frame", "own", "value", "left", "part"]) (ps := ["frame", "own", "value", "left"]) F ⟨rfl, rfl, rfl, by decide +kernel, rfl, by decide +kernel, by decide +kernel⟩ (binds_n (F.bindsN fun _ _ _ _ _ _ us hl => match us, hl with | [_, _, _, _], _ => rfl)) rfl rfl (fun _ _ => rfl) fun A outer s H cd C po => w41 W A outer s H cd C po
theorem ok42 {P : Program} {w : World} {K : PySem.W.Frag} {mg : Str → Option Value} {base : Heap} {k : Nat} (c : He.SaysD fa fn K) (t : ts K = true) (W : Wd P w K mg base k) : FnG P w K mg base (2 * (k + 1)) (adr K 42) (spOf K (ca K) (callS T (k + 1) 42)) := by
  obtain ⟨fd, F⟩ := c.def_ 42 (d := dd42) rfl
  exact fn_ok (ca := ca K) (d := d_is_body_term) (cf := callS T k) (N := ["frame", "own", "value"]) (ps := ["frame", "own", "value"]) F ⟨rfl, rfl, rfl, by decide +kernel, rfl, by decide +kernel, by decide +kernel⟩ (binds_n (F.bindsN fun _ _ _ _ _ _ us hl => match us, hl with | [_, _, _], _ => rfl)) rfl rfl (fun _ _ => rfl) fun A outer s H cd C po => w42 W A outer s H cd C po
theorem ok43 {P : Program} {w : World} {K : PySem.W.Frag} {mg : Str → Option Value} {base : Heap} {k : Nat} (c : He.SaysD fa fn K) (t : ts K = true) (W : Wd P w K mg base k) : FnG P w K mg base (2 * (k + 1)) (adr K 43) (spOf K (ca K) (callS T (k + 1) 43)) := by
  obtain ⟨fd, F⟩ := c.def_ 43 (d := dd43) rfl
  exact fn_ok (ca := ca K) (d := d_is_value) (cf := callS T k) (N := ["frame", "value", "own"]) (ps := ["frame", "value", "own"]) F ⟨rfl, rfl, rfl, by decide +kernel, rfl, by decide +kernel, by decide +kernel⟩ (binds_1 (by decide) (F.binds1 2 0 (by simp [dd43, He.DefD.dvs]) rfl fun _ _ _ _ _ _ _ us its h1 h2 => match us, its, h1, h2 with | [_, _], [_], _, _ => ⟨_, rfl, rfl⟩) (F.binds1 3 1 (by simp [dd43, He.DefD.dvs]) rfl fun _ _ _ _ _ _ _ us its h1 h2 => match us, its, h1, h2 with | [_, _, _], [_], _, _ => ⟨_, rfl, rfl⟩)) rfl rfl (fun φ H => ⟨_, _, rfl, rv_tup (tupAt_ok (ts_at t 12 rfl)) (by decide) rfl, rfl⟩) fun A outer s H cd C po => w43 W A outer s H cd C po
theorem ok44 {P : Program} {w : World} {K : PySem.W.Frag} {mg : Str → Option Value} {base : Heap} {k : Nat} (c : He.SaysD fa fn K) (t : ts K = true) (W : Wd P w K mg base k) : FnG P w K mg base (2 * (k + 1)) (adr K 44) (spOf K (ca K) (callS T (k + 1) 44)) := by
  obtain ⟨fd, F⟩ := c.def_ 44 (d := dd44) rfl
  exact fn_ok (ca := ca K) (d := d_is_cell) (cf := callS T k) (N := ["frame", "value", "own"]) (ps := ["frame", "value", "own"]) F ⟨rfl, rfl, rfl, by decide +kernel, rfl, by decide +kernel, by decide +kernel⟩ (binds_n (F.bindsN fun _ _ _ _ _ _ us hl => match us, hl with | [_, _, _], _ => rfl)) rfl rfl (fun _ _ => rfl) fun A outer s H cd C po => w44 W A outer s H cd C po
theorem ok45 {P : Program} {w : World} {K : PySem.W.Frag} {mg : Str → Option Value} {base : Heap} {k : Nat} (c : He.SaysD fa fn K) (t : ts K = true) (W : Wd P w K mg base k) : FnG P w K mg base (2 * (k + 1)) (adr K 45) (spOf K (ca K) (callS T (k + 1) 45)) := by
  obtain ⟨fd, F⟩ := c.def_ 45 (d := dd45) rfl
  exact fn_ok (ca := ca K) (d := d_claim_depth) (cf := callS T k) (N := ["frame", "claim"]) (ps := ["frame", "claim"]) F ⟨rfl, rfl, rfl, by decide +kernel, rfl, by decide +kernel, by decide +kernel⟩ (binds_n (F.bindsN fun _ _ _ _ _ _ us hl => match us, hl with | [_, _], _ => rfl)) rfl rfl (fun _ _ => rfl) fun A outer s H cd C po => w45 W A outer s H cd C po
theorem ok46 {P : Program} {w : World} {K : PySem.W.Frag} {mg : Str → Option Value} {base : Heap} {k : Nat} (c : He.SaysD fa fn K) (t : ts K = true) (W : Wd P w K mg base k) : FnG P w K mg base (2 * (k + 1)) (adr K 46) (spOf K (ca K) (callS T (k + 1) 46)) := by
  obtain ⟨fd, F⟩ := c.def_ 46 (d := dd46) rfl
  exact fn_ok (ca := ca K) (d := d_require_both) (cf := callS T k) (N := ["frame", "claim"]) (ps := ["frame", "claim"]) F ⟨rfl, rfl, rfl, by decide +kernel, rfl, by decide +kernel, by decide +kernel⟩ (binds_n (F.bindsN fun _ _ _ _ _ _ us hl => match us, hl with | [_, _], _ => rfl)) rfl rfl (fun _ _ => rfl) fun A outer s H cd C po => w46 W A outer s H cd C po
theorem ok47 {P : Program} {w : World} {K : PySem.W.Frag} {mg : Str → Option Value} {base : Heap} {k : Nat} (c : He.SaysD fa fn K) (t : ts K = true) (W : Wd P w K mg base k) : FnG P w K mg base (2 * (k + 1)) (adr K 47) (spOf K (ca K) (callS T (k + 1) 47)) := by
  obtain ⟨fd, F⟩ := c.def_ 47 (d := dd47) rfl
  exact fn_ok (ca := ca K) (d := d_require_claim) (cf := callS T k) (N := ["frame", "value"]) (ps := ["frame", "value"]) F ⟨rfl, rfl, rfl, by decide +kernel, rfl, by decide +kernel, by decide +kernel⟩ (binds_n (F.bindsN fun _ _ _ _ _ _ us hl => match us, hl with | [_, _], _ => rfl)) rfl rfl (fun _ _ => rfl) fun A outer s H cd C po => w47 W A outer s H cd C po
theorem ok48 {P : Program} {w : World} {K : PySem.W.Frag} {mg : Str → Option Value} {base : Heap} {k : Nat} (c : He.SaysD fa fn K) (t : ts K = true) (W : Wd P w K mg base k) : FnG P w K mg base (2 * (k + 1)) (adr K 48) (spOf K (ca K) (callS T (k + 1) 48)) := by
  obtain ⟨fd, F⟩ := c.def_ 48 (d := dd48) rfl
  exact fn_ok (ca := ca K) (d := d_depth_of) (cf := callS T k) (N := ["claim", "part"]) (ps := ["claim"]) F ⟨rfl, rfl, rfl, by decide +kernel, rfl, by decide +kernel, by decide +kernel⟩ (binds_n (F.bindsN fun _ _ _ _ _ _ us hl => match us, hl with | [_], _ => rfl)) rfl rfl (fun _ _ => rfl) fun A outer s H cd C po => w48 W A outer s H cd C po
theorem ok49 {P : Program} {w : World} {K : PySem.W.Frag} {mg : Str → Option Value} {base : Heap} {k : Nat} (c : He.SaysD fa fn K) (t : ts K = true) (W : Wd P w K mg base k) : FnG P w K mg base (2 * (k + 1)) (adr K 49) (spOf K (ca K) (callS T (k + 1) 49)) := by
  obtain ⟨fd, F⟩ := c.def_ 49 (d := dd49) rfl
  exact fn_ok (ca := ca K) (d := d_claim_parts) (cf := callS T k) (N := ["claim", "part", "own", "guard", "body", "op", "one", "other"]) (ps := ["claim"]) F ⟨rfl, rfl, rfl, by decide +kernel, rfl, by decide +kernel, by decide +kernel⟩ (binds_n (F.bindsN fun _ _ _ _ _ _ us hl => match us, hl with | [_], _ => rfl)) rfl rfl (fun _ _ => rfl) fun A outer s H cd C po => w49 W A outer s H cd C po
theorem ok50 {P : Program} {w : World} {K : PySem.W.Frag} {mg : Str → Option Value} {base : Heap} {k : Nat} (c : He.SaysD fa fn K) (t : ts K = true) (W : Wd P w K mg base k) : FnG P w K mg base (2 * (k + 1)) (adr K 50) (spOf K (ca K) (callS T (k + 1) 50)) := by
  obtain ⟨fd, F⟩ := c.def_ 50 (d := dd50) rfl
  exact fn_ok (ca := ca K) (d := d_u_law_all_judged) (cf := callS T k) (N := ["sides", "frame", "own", "value", "due", "text", "turn", "told"]) (ps := ["sides", "frame", "own", "value"]) F ⟨rfl, rfl, rfl, by decide +kernel, rfl, by decide +kernel, by decide +kernel⟩ (binds_n (F.bindsN fun _ _ _ _ _ _ us hl => match us, hl with | [_, _, _, _], _ => rfl)) rfl rfl (fun _ _ => rfl) fun A outer s H cd C po => w50 W A outer s H cd C po
theorem ok51 {P : Program} {w : World} {K : PySem.W.Frag} {mg : Str → Option Value} {base : Heap} {k : Nat} (c : He.SaysD fa fn K) (t : ts K = true) (W : Wd P w K mg base k) : FnG P w K mg base (2 * (k + 1)) (adr K 51) (spOf K (ca K) (callS T (k + 1) 51)) := by
  obtain ⟨fd, F⟩ := c.def_ 51 (d := dd51) rfl
  exact fn_ok (ca := ca K) (d := d_u_law_is_claim) (cf := callS T k) (N := ["sides", "value", "part"]) (ps := ["sides", "value"]) F ⟨rfl, rfl, rfl, by decide +kernel, rfl, by decide +kernel, by decide +kernel⟩ (binds_n (F.bindsN fun _ _ _ _ _ _ us hl => match us, hl with | [_, _], _ => rfl)) rfl rfl (fun _ _ => rfl) fun A outer s H cd C po => w51 W A outer s H cd C po
theorem ok52 {P : Program} {w : World} {K : PySem.W.Frag} {mg : Str → Option Value} {base : Heap} {k : Nat} (c : He.SaysD fa fn K) (t : ts K = true) (W : Wd P w K mg base k) : FnG P w K mg base (2 * (k + 1)) (adr K 52) (spOf K (ca K) (callS T (k + 1) 52)) := by
  obtain ⟨fd, F⟩ := c.def_ 52 (d := dd52) rfl
  exact fn_ok (ca := ca K) (d := d_u_law_are_joined) (cf := callS T k) (N := ["value"]) (ps := ["value"]) F ⟨rfl, rfl, rfl, by decide +kernel, rfl, by decide +kernel, by decide +kernel⟩ (binds_n (F.bindsN fun _ _ _ _ _ _ us hl => match us, hl with | [_], _ => rfl)) rfl rfl (fun _ _ => rfl) fun A outer s H cd C po => w52 W A outer s H cd C po
theorem ok53 {P : Program} {w : World} {K : PySem.W.Frag} {mg : Str → Option Value} {base : Heap} {k : Nat} (c : He.SaysD fa fn K) (t : ts K = true) (W : Wd P w K mg base k) : FnG P w K mg base (2 * (k + 1)) (adr K 53) (spOf K (ca K) (callS T (k + 1) 53)) := by
  obtain ⟨fd, F⟩ := c.def_ 53 (d := dd53) rfl
  exact fn_ok (ca := ca K) (d := d_u_law_starts) (cf := callS T k) (N := ["value", "word", "size"]) (ps := ["value", "word", "size"]) F ⟨rfl, rfl, rfl, by decide +kernel, rfl, by decide +kernel, by decide +kernel⟩ (binds_n (F.bindsN fun _ _ _ _ _ _ us hl => match us, hl with | [_, _, _], _ => rfl)) rfl rfl (fun _ _ => rfl) fun A outer s H cd C po => w53 W A outer s H cd C po
theorem ok54 {P : Program} {w : World} {K : PySem.W.Frag} {mg : Str → Option Value} {base : Heap} {k : Nat} (c : He.SaysD fa fn K) (t : ts K = true) (W : Wd P w K mg base k) : FnG P w K mg base (2 * (k + 1)) (adr K 54) (spOf K (ca K) (callS T (k + 1) 54)) := by
  obtain ⟨fd, F⟩ := c.def_ 54 (d := dd54) rfl
  exact fn_ok (ca := ca K) (d := d_u_law_is_op) (cf := callS T k) (N := ["value", "ops"]) (ps := ["value", "ops"]) F ⟨rfl, rfl, rfl, by decide +kernel, rfl, by decide +kernel, by decide +kernel⟩ (binds_n (F.bindsN fun _ _ _ _ _ _ us hl => match us, hl with | [_, _], _ => rfl)) rfl rfl (fun _ _ => rfl) fun A outer s H cd C po => w54 W A outer s H cd C po
theorem ok55 {P : Program} {w : World} {K : PySem.W.Frag} {mg : Str → Option Value} {base : Heap} {k : Nat} (c : He.SaysD fa fn K) (t : ts K = true) (W : Wd P w K mg base k) : FnG P w K mg base (2 * (k + 1)) (adr K 55) (spOf K (ca K) (callS T (k + 1) 55)) := by
  obtain ⟨fd, F⟩ := c.def_ 55 (d := dd55) rfl
  exact fn_ok (ca := ca K) (d := d_u_law_is_body) (cf := callS T k) (N := ["sides", "value", "own", "part"]) (ps := ["sides", "value", "own"]) F ⟨rfl, rfl, rfl, by decide +kernel, rfl, by decide +kernel, by decide +kernel⟩ (binds_n (F.bindsN fun _ _ _ _ _ _ us hl => match us, hl with | [_, _, _], _ => rfl)) rfl rfl (fun _ _ => rfl) fun A outer s H cd C po => w55 W A outer s H cd C po
theorem ok56 {P : Program} {w : World} {K : PySem.W.Frag} {mg : Str → Option Value} {base : Heap} {k : Nat} (c : He.SaysD fa fn K) (t : ts K = true) (W : Wd P w K mg base k) : FnG P w K mg base (2 * (k + 1)) (adr K 56) (spOf K (ca K) (callS T (k + 1) 56)) := by
  obtain ⟨fd, F⟩ := c.def_ 56 (d := dd56) rfl
  exact fn_ok (ca := ca K) (d := d_u_law_is_worth) (cf := callS T k) (N := ["sides", "value", "own"]) (ps := ["sides", "value", "own"]) F ⟨rfl, rfl, rfl, by decide +kernel, rfl, by decide +kernel, by decide +kernel⟩ (binds_n (F.bindsN fun _ _ _ _ _ _ us hl => match us, hl with | [_, _, _], _ => rfl)) rfl rfl (fun _ _ => rfl) fun A outer s H cd C po => w56 W A outer s H cd C po
theorem ok57 {P : Program} {w : World} {K : PySem.W.Frag} {mg : Str → Option Value} {base : Heap} {k : Nat} (c : He.SaysD fa fn K) (t : ts K = true) (W : Wd P w K mg base k) : FnG P w K mg base (2 * (k + 1)) (adr K 57) (spOf K (ca K) (callS T (k + 1) 57)) := by
  obtain ⟨fd, F⟩ := c.def_ 57 (d := dd57) rfl
  exact fn_ok (ca := ca K) (d := d_u_law_is_whole) (cf := callS T k) (N := ["value"]) (ps := ["value"]) F ⟨rfl, rfl, rfl, by decide +kernel, rfl, by decide +kernel, by decide +kernel⟩ (binds_n (F.bindsN fun _ _ _ _ _ _ us hl => match us, hl with | [_], _ => rfl)) rfl rfl (fun _ _ => rfl) fun A outer s H cd C po => w57 W A outer s H cd C po
theorem ok58 {P : Program} {w : World} {K : PySem.W.Frag} {mg : Str → Option Value} {base : Heap} {k : Nat} (c : He.SaysD fa fn K) (t : ts K = true) (W : Wd P w K mg base k) : FnG P w K mg base (2 * (k + 1)) (adr K 58) (spOf K (ca K) (callS T (k + 1) 58)) := by
  obtain ⟨fd, F⟩ := c.def_ 58 (d := dd58) rfl
  exact fn_ok (ca := ca K) (d := d_u_law_is_place) (cf := callS T k) (N := ["sides", "value", "own"]) (ps := ["sides", "value", "own"]) F ⟨rfl, rfl, rfl, by decide +kernel, rfl, by decide +kernel, by decide +kernel⟩ (binds_n (F.bindsN fun _ _ _ _ _ _ us hl => match us, hl with | [_, _, _], _ => rfl)) rfl rfl (fun _ _ => rfl) fun A outer s H cd C po => w58 W A outer s H cd C po
theorem ok59 {P : Program} {w : World} {K : PySem.W.Frag} {mg : Str → Option Value} {base : Heap} {k : Nat} (c : He.SaysD fa fn K) (t : ts K = true) (W : Wd P w K mg base k) : FnG P w K mg base (2 * (k + 1)) (adr K 59) (spOf K (ca K) (callS T (k + 1) 59)) := by
  obtain ⟨fd, F⟩ := c.def_ 59 (d := dd59) rfl
  exact fn_ok (ca := ca K) (d := d_u_law_are_own) (cf := callS T k) (N := ["sides", "value", "name"]) (ps := ["sides", "value"]) F ⟨rfl, rfl, rfl, by decide +kernel, rfl, by decide +kernel, by decide +kernel⟩ (binds_n (F.bindsN fun _ _ _ _ _ _ us hl => match us, hl with | [_, _], _ => rfl)) rfl rfl (fun _ _ => rfl) fun A outer s H cd C po => w59 W A outer s H cd C po
theorem ok60 {P : Program} {w : World} {K : PySem.W.Frag} {mg : Str → Option Value} {base : Heap} {k : Nat} (c : He.SaysD fa fn K) (t : ts K = true) (W : Wd P w K mg base k) : FnG P w K mg base (2 * (k + 1)) (adr K 60) (spOf K (ca K) (callS T (k + 1) 60)) := by
  obtain ⟨fd, F⟩ := c.def_ 60 (d := dd60) rfl
  exact fn_ok (ca := ca K) (d := d_u_law_is_guard) (cf := callS T k) (N := ["sides", "value", "own", "names", "term", "part"]) (ps := ["sides", "value", "own"]) F ⟨rfl, rfl, rfl, by decide +kernel, rfl, by decide +kernel, by decide +kernel⟩ (binds_n (F.bindsN fun _ _ _ _ _ _ us hl => match us, hl with | [_, _, _], _ => rfl)) rfl rfl (fun _ _ => rfl) fun A outer s H cd C po => w60 W A outer s H cd C po
theorem ok61 {P : Program} {w : World} {K : PySem.W.Frag} {mg : Str → Option Value} {base : Heap} {k : Nat} (c : He.SaysD fa fn K) (t : ts K = true) (W : Wd P w K mg base k) : FnG P w K mg base (2 * (k + 1)) (adr K 61) (spOf K (ca K) (callS T (k + 1) 61)) := by
  obtain ⟨fd, F⟩ := c.def_ 61 (d := dd61) rfl
  exact fn_ok (ca := ca K) (d := d_is_guard) (cf := callS T k) (N := ["frame", "own", "value"]) (ps := ["frame", "own", "value"]) F ⟨rfl, rfl, rfl, by decide +kernel, rfl, by decide +kernel, by decide +kernel⟩ (binds_n (F.bindsN fun _ _ _ _ _ _ us hl => match us, hl with | [_, _, _], _ => rfl)) rfl rfl (fun _ _ => rfl) fun A outer s H cd C po => w61 W A outer s H cd C po
theorem ok62 {P : Program} {w : World} {K : PySem.W.Frag} {mg : Str → Option Value} {base : Heap} {k : Nat} (c : He.SaysD fa fn K) (t : ts K = true) (W : Wd P w K mg base k) : FnG P w K mg base (2 * (k + 1)) (adr K 62) (spOf K (ca K) (callS T (k + 1) 62)) := by
  obtain ⟨fd, F⟩ := c.def_ 62 (d := dd62) rfl
  exact fn_ok (ca := ca K) (d := d_require_own) (cf := callS T k) (N := ["frame", "own"]) (ps := ["frame", "own"]) F ⟨rfl, rfl, rfl, by decide +kernel, rfl, by decide +kernel, by decide +kernel⟩ (binds_n (F.bindsN fun _ _ _ _ _ _ us hl => match us, hl with | [_, _], _ => rfl)) rfl rfl (fun _ _ => rfl) fun A outer s H cd C po => w62 W A outer s H cd C po
theorem ok63 {P : Program} {w : World} {K : PySem.W.Frag} {mg : Str → Option Value} {base : Heap} {k : Nat} (c : He.SaysD fa fn K) (t : ts K = true) (W : Wd P w K mg base k) : FnG P w K mg base (2 * (k + 1)) (adr K 63) (spOf K (ca K) (callS T (k + 1) 63)) := by
  obtain ⟨fd, F⟩ := c.def_ 63 (d := dd63) rfl
  exact fn_ok (ca := ca K) (d := d_is_body) (cf := callS T k) (N := ["frame", "own", "value"]) (ps := ["frame", "own", "value"]) F ⟨rfl, rfl, rfl, by decide +kernel, rfl, by decide +kernel, by decide +kernel⟩ (binds_n (F.bindsN fun _ _ _ _ _ _ us hl => match us, hl with | [_, _, _], _ => rfl)) rfl rfl (fun _ _ => rfl) fun A outer s H cd C po => w63 W A outer s H cd C po
theorem ok64 {P : Program} {w : World} {K : PySem.W.Frag} {mg : Str → Option Value} {base : Heap} {k : Nat} (c : He.SaysD fa fn K) (t : ts K = true) (W : Wd P w K mg base k) : FnG P w K mg base (2 * (k + 1)) (adr K 64) (spOf K (ca K) (callS T (k + 1) 64)) := by
  obtain ⟨fd, F⟩ := c.def_ 64 (d := dd64) rfl
  exact fn_ok (ca := ca K) (d := d_u_law_bent) (cf := callS T k) (N := ["keg", "sides", "value", "deep", "at", "near", "way"]) (ps := ["keg", "sides", "value", "deep"]) F ⟨rfl, rfl, rfl, by decide +kernel, rfl, by decide +kernel, by decide +kernel⟩ (binds_n (F.bindsN fun _ _ _ _ _ _ us hl => match us, hl with | [_, _, _, _], _ => rfl)) rfl rfl (fun _ _ => rfl) fun A outer s H cd C po => w64 W A outer s H cd C po
theorem ok65 {P : Program} {w : World} {K : PySem.W.Frag} {mg : Str → Option Value} {base : Heap} {k : Nat} (c : He.SaysD fa fn K) (t : ts K = true) (W : Wd P w K mg base k) : FnG P w K mg base (2 * (k + 1)) (adr K 65) (spOf K (ca K) (callS T (k + 1) 65)) := by
  obtain ⟨fd, F⟩ := c.def_ 65 (d := dd65) rfl
  exact fn_ok (ca := ca K) (d := d_u_law_odd) (cf := callS T k) (N := ["keg", "sides", "value", "names", "name", "some"]) (ps := ["keg", "sides", "value"]) F ⟨rfl, rfl, rfl, by decide +kernel, rfl, by decide +kernel, by decide +kernel⟩ (binds_n (F.bindsN fun _ _ _ _ _ _ us hl => match us, hl with | [_, _, _], _ => rfl)) rfl rfl (fun _ _ => rfl) fun A outer s H cd C po => w65 W A outer s H cd C po
theorem wd {P : Program} {w : World} {K : PySem.W.Frag} {mg : Str → Option Value} {base : Heap} (F : Wf K mg) (c : He.SaysD fa fn K) (t : ts K = true) : ∀ k, Wd P w K mg base k
  | 0 => ⟨F, fun i => fg_none fun _ _ => rfl⟩
  | k + 1 => ⟨F, fun i => match i with
    | 0 => ok0 c t (wd F c t k)
    | 1 => ok1 c t (wd F c t k)
    | 2 => ok2 c t (wd F c t k)
    | 3 => ok3 c t (wd F c t k)
    | 4 => ok4 c t (wd F c t k)
    | 5 => ok5 c t (wd F c t k)
    | 6 => ok6 c t (wd F c t k)
    | 7 => ok7 c t (wd F c t k)
    | 8 => ok8 c t (wd F c t k)
    | 9 => ok9 c t (wd F c t k)
    | 10 => ok10 c t (wd F c t k)
    | 11 => ok11 c t (wd F c t k)
    | 12 => ok12 c t (wd F c t k)
    | 13 => ok13 c t (wd F c t k)
    | 14 => ok14 c t (wd F c t k)
    | 15 => ok15 c t (wd F c t k)
    | 16 => ok16 c t (wd F c t k)
    | 17 => ok17 c t (wd F c t k)
    | 18 => ok18 c t (wd F c t k)
    | 19 => ok19 c t (wd F c t k)
    | 20 => ok20 c t (wd F c t k)
    | 21 => ok21 c t (wd F c t k)
    | 22 => ok22 c t (wd F c t k)
    | 23 => ok23 c t (wd F c t k)
    | 24 => ok24 c t (wd F c t k)
    | 25 => ok25 c t (wd F c t k)
    | 26 => ok26 c t (wd F c t k)
    | 27 => ok27 c t (wd F c t k)
    | 28 => ok28 c t (wd F c t k)
    | 29 => ok29 c t (wd F c t k)
    | 30 => ok30 c t (wd F c t k)
    | 31 => ok31 c t (wd F c t k)
    | 32 => ok32 c t (wd F c t k)
    | 33 => ok33 c t (wd F c t k)
    | 34 => ok34 c t (wd F c t k)
    | 35 => ok35 c t (wd F c t k)
    | 36 => ok36 c t (wd F c t k)
    | 37 => ok37 c t (wd F c t k)
    | 38 => ok38 c t (wd F c t k)
    | 39 => ok39 c t (wd F c t k)
    | 40 => ok40 c t (wd F c t k)
    | 41 => ok41 c t (wd F c t k)
    | 42 => ok42 c t (wd F c t k)
    | 43 => ok43 c t (wd F c t k)
    | 44 => ok44 c t (wd F c t k)
    | 45 => ok45 c t (wd F c t k)
    | 46 => ok46 c t (wd F c t k)
    | 47 => ok47 c t (wd F c t k)
    | 48 => ok48 c t (wd F c t k)
    | 49 => ok49 c t (wd F c t k)
    | 50 => ok50 c t (wd F c t k)
    | 51 => ok51 c t (wd F c t k)
    | 52 => ok52 c t (wd F c t k)
    | 53 => ok53 c t (wd F c t k)
    | 54 => ok54 c t (wd F c t k)
    | 55 => ok55 c t (wd F c t k)
    | 56 => ok56 c t (wd F c t k)
    | 57 => ok57 c t (wd F c t k)
    | 58 => ok58 c t (wd F c t k)
    | 59 => ok59 c t (wd F c t k)
    | 60 => ok60 c t (wd F c t k)
    | 61 => ok61 c t (wd F c t k)
    | 62 => ok62 c t (wd F c t k)
    | 63 => ok63 c t (wd F c t k)
    | 64 => ok64 c t (wd F c t k)
    | 65 => ok65 c t (wd F c t k)
    | _ + 66 => fg_none fun _ _ => rfl⟩
end k05

set_option maxRecDepth 100000
set_option maxHeartbeats 0
open PySem PySem.W PySem.Calls PyProof.Rows
theorem PySem.Challenge.cw_cellswide_k05_claims_judged_holds : PySem.Challenge.rw_cellswide_k05_claims_judged.Holds := by
  w_on; o_law
  refine HandSHeadRun.head_any (r := OpenLaw.row PySem.Challenge.rw_cellswide_k05_claims_judged) (q := view (OpenLaw.row PySem.Challenge.rw_cellswide_k05_claims_judged).prog [82]) (H := k05.hk) (ob := k05.obv) (M := 4000) (loose := k05.names) (d := HandSHeadRun.topDef (OpenLaw.row PySem.Challenge.rw_cellswide_k05_claims_judged).prog 82) (kwd := []) k05.ob_eq
    (by kernel_rfl) (fun s => by kernel_rfl) k05.run (by kernel_rfl) (by kernel_rfl) (by kernel_rfl) (by rfl) (by first | assumption | decide +kernel) (by decide +kernel) ⟨rfl, rfl, rfl, rfl, rfl, by decide +kernel⟩ ?hw ?hc
  case hw => w_witness2
  case hc =>
    refine Lt.walk_ofG (l := PySem.Challenge.rw_cellswide_k05_claims_judged) (n := 63) (k := 224) rfl (by decide) (by kernel_rfl) ⟨rfl, by decide, by decide⟩ ?F
    intro w mg fa h Y G hmg0
    obtain ⟨K, KX, c, t⟩ := Y
    have hmg : mg ("law" : PySem.Str) = some (.ref fa) := by
      have e : (HandSHeadRun.topDef (OpenLaw.row PySem.Challenge.rw_cellswide_k05_claims_judged).prog 82).name = ("law" : PySem.Str) := by kernel_rfl
      rw [← e]
      exact hmg0
    have W := k05.wf KX G c t
    have e := hmg.symm.trans W.g0
    cases e
    exact ⟨K, _, KX, fun H a ns hl hO hS => Lt.law_sp (ca := k05.ca K) (c := Lt.callS k05.T 112 0) (n := 63) (by decide) (fun ns hl => k05.law_data ns hl) H a ns hl hO hS, fun base _ _ => (k05.wd W c t 112).f 0⟩

