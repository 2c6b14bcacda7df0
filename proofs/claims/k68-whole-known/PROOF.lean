import PyProof.Rows.All
import Wide.All
import OpenK.AllK
import Wide.FinOn
import HandS.ForMost
import HandS.Defaults
import HandS.HeadHook1
import HandS.HeadHook2
import PySem.Challenge.RW_lightturns_k68_whole_known_never_changes
import KE.KStateDown
import Lean
import HandS.Base
import HandS.Call
import HandS.Ends
import HandS.More
import HandS.Words
import HandS.WordsExc
import HandS.Head0
import HandS.Head1
import HandS.Head2
import HandS.HeadEnd
import HandS.Walk
import HandS.DictTup
import HandS.Sort
import KE.KDictWalk
import KE.SortData
import PyProof.ReprNest
import HandS.FStr
import HandS.IsInst
import HandS.NoneIn
import HandS.Wide
import HandS.WideBits
import PyProof.StrLawsRepr
set_option Elab.async false
set_option linter.all false
set_option maxRecDepth 100000
set_option maxHeartbeats 0
namespace LT
open PySem PySem.Spec PyProof.Rows L2
def top (i : Nat) : Stmt := PySem.Challenge.pw_lightturns_k68_whole_known_never_changes.main.body.getD i (.Pass ⟨0, 0, 0, 0⟩)
abbrev FnP (K : PySem.W.Frag) (x q : Str) (st : Stmt) (dvs : List V) (f : Addr) (fd : FuncData) : Prop := FunD K x q (defArgs st) (defBody st) (defScope st) dvs [] f fd
abbrev sIsName : Stmt := top 15
abbrev sIsWhole : Stmt := top 16
abbrev sIsRank : Stmt := top 21
abbrev sIsPlace : Stmt := top 22
abbrev sWantRanks : Stmt := top 23
abbrev sWantDay : Stmt := top 24
abbrev sWantKnown : Stmt := top 25
abbrev sPutDown : Stmt := top 26
abbrev sLastTold : Stmt := top 27
abbrev sBInit : Stmt := inClass (top 28) 0
abbrev sBRanks : Stmt := inClass (top 28) 1
abbrev sBWantKeeper : Stmt := inClass (top 28) 3
abbrev sBWantNotEarly : Stmt := inClass (top 28) 4
abbrev sBTell : Stmt := inClass (top 28) 5
abbrev sBLand : Stmt := inClass (top 28) 6
abbrev sBHeldMoves : Stmt := inClass (top 28) 7
abbrev sBHeldLandings : Stmt := inClass (top 28) 8
abbrev sBWhere : Stmt := inClass (top 28) 9
abbrev sBLanded : Stmt := inClass (top 28) 10
abbrev sSInit : Stmt := inClass (top 30) 0
abbrev sSRepr : Stmt := inClass (top 30) 5
abbrev sRunsOf : Stmt := top 32
abbrev sTurns : Stmt := top 33
abbrev sTurnOn : Stmt := top 34
abbrev sWantPlace : Stmt := top 35
abbrev sChargeRows : Stmt := top 36
abbrev sWantAsked : Stmt := top 37
abbrev sKeepersAt : Stmt := top 38
abbrev sLPot : Stmt := top 40
abbrev sLTake : Stmt := top 41
abbrev sLFar : Stmt := top 42
abbrev sLNames : Stmt := top 43
abbrev sLPlan : Stmt := top 44
abbrev sLWorth : Stmt := top 45
abbrev sLEvent : Stmt := top 46
abbrev sLTell : Stmt := top 47
abbrev sLKnownThen : Stmt := top 48
abbrev sLBetween : Stmt := top 49
abbrev sLStays : Stmt := top 50
abbrev sLLaw : Stmt := top 51
def dIsName : He.DefD := ⟨("is_name", none), "is_name", "is_name", defArgs sIsName, defBody sIsName, defScope sIsName, [], []⟩
def dIsWhole : He.DefD := ⟨("is_whole", none), "is_whole", "is_whole", defArgs sIsWhole, defBody sIsWhole, defScope sIsWhole, [.int 0], []⟩
def dIsRank : He.DefD := ⟨("is_rank", none), "is_rank", "is_rank", defArgs sIsRank, defBody sIsRank, defScope sIsRank, [], []⟩
def dIsPlace : He.DefD := ⟨("is_place", none), "is_place", "is_place", defArgs sIsPlace, defBody sIsPlace, defScope sIsPlace, [], []⟩
def dWantRanks : He.DefD := ⟨("want_ranks", none), "want_ranks", "want_ranks", defArgs sWantRanks, defBody sWantRanks, defScope sWantRanks, [], []⟩
def dWantDay : He.DefD := ⟨("want_day", none), "want_day", "want_day", defArgs sWantDay, defBody sWantDay, defScope sWantDay, [], []⟩
def dWantKnown : He.DefD := ⟨("want_known", none), "want_known", "want_known", defArgs sWantKnown, defBody sWantKnown, defScope sWantKnown, [], []⟩
def dPutDown : He.DefD := ⟨("put_down", none), "put_down", "put_down", defArgs sPutDown, defBody sPutDown, defScope sPutDown, [], []⟩
def dLastTold : He.DefD := ⟨("last_told", none), "last_told", "last_told", defArgs sLastTold, defBody sLastTold, defScope sLastTold, [], []⟩
def dBInit : He.DefD := ⟨("Book", some "__init__"), "__init__", "Book.__init__", defArgs sBInit, defBody sBInit, defScope sBInit, [], []⟩
def dBRanks : He.DefD := ⟨("Book", some "ranks"), "ranks", "Book.ranks", defArgs sBRanks, defBody sBRanks, defScope sBRanks, [], []⟩
def dBWantKeeper : He.DefD := ⟨("Book", some "want_keeper"), "want_keeper", "Book.want_keeper", defArgs sBWantKeeper, defBody sBWantKeeper, defScope sBWantKeeper, [], []⟩
def dBWantNotEarly : He.DefD := ⟨("Book", some "want_not_early"), "want_not_early", "Book.want_not_early", defArgs sBWantNotEarly, defBody sBWantNotEarly, defScope sBWantNotEarly, [], []⟩
def dBTell : He.DefD := ⟨("Book", some "tell"), "tell", "Book.tell", defArgs sBTell, defBody sBTell, defScope sBTell, [], []⟩
def dBLand : He.DefD := ⟨("Book", some "land"), "land", "Book.land", defArgs sBLand, defBody sBLand, defScope sBLand, [], []⟩
def dBHeldMoves : He.DefD := ⟨("Book", some "held_moves"), "held_moves", "Book.held_moves", defArgs sBHeldMoves, defBody sBHeldMoves, defScope sBHeldMoves, [], []⟩
def dBHeldLandings : He.DefD := ⟨("Book", some "held_landings"), "held_landings", "Book.held_landings", defArgs sBHeldLandings, defBody sBHeldLandings, defScope sBHeldLandings, [], []⟩
def dBWhere : He.DefD := ⟨("Book", some "where"), "where", "Book.where", defArgs sBWhere, defBody sBWhere, defScope sBWhere, [.non], []⟩
def dBLanded : He.DefD := ⟨("Book", some "landed"), "landed", "Book.landed", defArgs sBLanded, defBody sBLanded, defScope sBLanded, [.non], []⟩
def dSInit : He.DefD := ⟨("Stretch", some "__init__"), "__init__", "Stretch.__init__", defArgs sSInit, defBody sSInit, defScope sSInit, [.non], []⟩
def dSRepr : He.DefD := ⟨("Stretch", some "__repr__"), "__repr__", "Stretch.__repr__", defArgs sSRepr, defBody sSRepr, defScope sSRepr, [], []⟩
def dRunsOf : He.DefD := ⟨("runs_of", none), "runs_of", "runs_of", defArgs sRunsOf, defBody sRunsOf, defScope sRunsOf, [], []⟩
def dTurns : He.DefD := ⟨("turns", none), "turns", "turns", defArgs sTurns, defBody sTurns, defScope sTurns, [.non], []⟩
def dTurnOn : He.DefD := ⟨("turn_on", none), "turn_on", "turn_on", defArgs sTurnOn, defBody sTurnOn, defScope sTurnOn, [], []⟩
def dWantPlace : He.DefD := ⟨("want_place", none), "want_place", "want_place", defArgs sWantPlace, defBody sWantPlace, defScope sWantPlace, [], []⟩
def dChargeRows : He.DefD := ⟨("charge_rows", none), "charge_rows", "charge_rows", defArgs sChargeRows, defBody sChargeRows, defScope sChargeRows, [], []⟩
def dWantAsked : He.DefD := ⟨("want_asked", none), "want_asked", "want_asked", defArgs sWantAsked, defBody sWantAsked, defScope sWantAsked, [], []⟩
def dKeepersAt : He.DefD := ⟨("keepers_at", none), "keepers_at", "keepers_at", defArgs sKeepersAt, defBody sKeepersAt, defScope sKeepersAt, [.non], []⟩
def dLPot : He.DefD := ⟨("_law_pot", none), "_law_pot", "_law_pot", defArgs sLPot, defBody sLPot, defScope sLPot, [], []⟩
def dLTake : He.DefD := ⟨("_law_take", none), "_law_take", "_law_take", defArgs sLTake, defBody sLTake, defScope sLTake, [], []⟩
def dLFar : He.DefD := ⟨("_law_far", none), "_law_far", "_law_far", defArgs sLFar, defBody sLFar, defScope sLFar, [], []⟩
def dLNames : He.DefD := ⟨("_law_names", none), "_law_names", "_law_names", defArgs sLNames, defBody sLNames, defScope sLNames, [], []⟩
def dLPlan : He.DefD := ⟨("_law_plan", none), "_law_plan", "_law_plan", defArgs sLPlan, defBody sLPlan, defScope sLPlan, [], []⟩
def dLWorth : He.DefD := ⟨("_law_worth", none), "_law_worth", "_law_worth", defArgs sLWorth, defBody sLWorth, defScope sLWorth, [], []⟩
def dLEvent : He.DefD := ⟨("_law_event", none), "_law_event", "_law_event", defArgs sLEvent, defBody sLEvent, defScope sLEvent, [], []⟩
def dLTell : He.DefD := ⟨("_law_tell", none), "_law_tell", "_law_tell", defArgs sLTell, defBody sLTell, defScope sLTell, [], []⟩
def dLKnownThen : He.DefD := ⟨("_law_known_then", none), "_law_known_then", "_law_known_then", defArgs sLKnownThen, defBody sLKnownThen, defScope sLKnownThen, [], []⟩
def dLBetween : He.DefD := ⟨("_law_between", none), "_law_between", "_law_between", defArgs sLBetween, defBody sLBetween, defScope sLBetween, [], []⟩
def dLStays : He.DefD := ⟨("_law_stays", none), "_law_stays", "_law_stays", defArgs sLStays, defBody sLStays, defScope sLStays, [], []⟩
def dLLaw : He.DefD := ⟨("law", none), "law", "law", defArgs sLLaw, defBody sLLaw, defScope sLLaw, [], []⟩
def fn1 : List He.DefD := [dIsName, dIsWhole, dIsRank, dIsPlace, dWantRanks, dWantDay, dWantKnown, dPutDown, dLastTold, dBInit, dBRanks, dBWantKeeper, dBWantNotEarly, dBTell, dBLand, dBHeldMoves, dBHeldLandings, dBWhere, dBLanded, dSInit]
def fn2 : List He.DefD := [dSRepr, dRunsOf, dTurns, dTurnOn, dWantPlace, dChargeRows, dWantAsked, dKeepersAt, dLPot, dLTake, dLFar, dLNames, dLPlan, dLWorth, dLEvent, dLTell, dLKnownThen, dLBetween, dLStays, dLLaw]
def fn : List He.DefD := fn1 ++ fn2
def fa0 : List He.Fa := [.glo "is_name", .glo "is_whole", .glo "is_rank", .glo "is_place", .glo "want_ranks", .glo "want_day", .glo "want_known", .glo "put_down", .glo "last_told", .glo "runs_of", .glo "turns", .glo "turn_on", .glo "want_place", .glo "charge_rows", .glo "want_asked", .glo "keepers_at", .glo "_law_pot", .glo "_law_take", .glo "_law_far", .glo "_law_names"]
def fa1 : List He.Fa := [.glo "_law_plan", .glo "_law_worth", .glo "_law_event", .glo "_law_tell", .glo "_law_known_then", .glo "_law_between", .glo "_law_stays", .glo "law", .free "isinstance", .free "len", .free "all", .free "dict", .free "sorted", .free "sum", .free "enumerate", .free "max", .free "min", .free "abs", .free "divmod", .free "range"]
def fa2 : List He.Fa := [.free "repr", .free "str", .free "int", .free "bool", .str "LETTERS" "abcdefghijklmnopqrstuvwxyz", .str "ASHORE" "", .int "MOST_LETTERS" 8, .int "LOWEST_RANK" 9, .int "MOST_KEEPERS" 30, .glo "Book", .cls "Book", .mkr "Book", .noat "Book" "own_ranks", .noat "Book" "moves_told", .noat "Book" "landings_told", .noat "Book" "told_last", .meth "Book" "ranks", .meth "Book" "want_keeper", .meth "Book" "want_not_early", .meth "Book" "tell"]
def fa3 : List He.Fa := [.meth "Book" "land", .meth "Book" "held_moves", .meth "Book" "held_landings", .meth "Book" "where", .meth "Book" "landed", .glo "Stretch", .cls "Stretch", .mkr "Stretch", .noat "Stretch" "begin", .noat "Stretch" "end", .meth "Stretch" "__repr__"]
def fa : List He.Fa := fa0 ++ fa1 ++ fa2 ++ fa3
-- 0:g_IsName 1:g_IsWhole 2:g_IsRank 3:g_IsPlace 4:g_WantRanks 5:g_WantDay 6:g_WantKnown 7:g_PutDown 8:g_LastTold 9:g_RunsOf 10:g_Turns 11:g_TurnOn 12:g_WantPlace 13:g_ChargeRows 14:g_WantAsked 15:g_KeepersAt 16:g_LPot 17:g_LTake 18:g_LFar 19:g_LNames 20:g_LPlan 21:g_LWorth 22:g_LEvent 23:g_LTell 24:g_LKnownThen 25:g_LBetween 26:g_LStays 27:g_LLaw 28:z_isinstance 29:z_len 30:z_all 31:z_dict 32:z_sorted 33:z_sum 34:z_enumerate 35:z_max 36:z_min 37:z_abs 38:z_divmod 39:z_range 40:z_repr 41:z_str 42:z_int 43:z_bool 44:c_LETTERS 45:c_ASHORE 46:c_MOST 47:c_LOW 48:c_KEEP 49:g_Book 50:cl_Book 51:mk_Book 52:n_own_ranks 53:n_moves_told 54:n_landings_told 55:n_told_last 56:m_ranks 57:m_want_keeper 58:m_want_not_early 59:m_tell 60:m_land 61:m_held_moves 62:m_held_landings 63:m_where 64:m_landed 65:g_Stretch 66:cl_Stretch 67:mk_Stretch 68:n_begin 69:n_end 70:m___repr__
end LT
namespace LTH
open LT
open PySem PySem.Spec PyProof.Rows L2
abbrev R : PySem.W.OpenRow := PySem.W.OpenLaw.row PySem.Challenge.rw_lightturns_k68_whole_known_never_changes
abbrev hk : PySem.W.Hook := He.hookD 5 fa fn
def ob (s : PySem.W.SharedT) : He.AlD := He.obsDG 5 fa fn (HandSHeadRun.getT s)
theorem ob_eq (s : PySem.W.SharedT) : ob s = hk.obs s.abs := He.obsDG_eq (HandSHeadRun.getT_eq s)
def lo1 : List Str := ["_wall", "LightsError", "Wrong", "Barred", "NoDay", "NoName", "NoNumber", "NoRanks", "NoKeeper", "NoPlace", "Early", "LETTERS", "MOST_LETTERS", "is_name", "is_whole", "ASHORE", "LOWEST_RANK", "MOST_KEEPERS", "is_rank", "is_place", "want_ranks", "want_day", "want_known", "put_down", "last_told", "Book", "Stretch"]
def lo2 : List Str := ["runs_of", "turns", "turn_on", "want_place", "charge_rows", "want_asked", "keepers_at", "_law_pot", "_law_take", "_law_far", "_law_names", "_law_plan", "_law_worth", "_law_event", "_law_tell", "_law_known_then", "_law_between", "_law_stays"]
def lo : List Str := lo1 ++ lo2
theorem run (w : World) : HandSHeadRun.RunEq R (PySem.W.view R.prog [51]) hk ob 6000 lo w := by
  intro os
  kernel_rfl
end LTH
/-! Rules that the layer lacks: setdefault and items() over a dict with tuple keys, items() over a dict that the expression makes, sorted of tuples. -/
namespace LT
open PySem PySem.Spec PyProof.Rows L2
section
variable {X : Cx}
/-- d.setdefault(k, x) where the keys are tuples -/
def rSetdT : V → List V → Hp → VK → Prop := fun x xs H Q => ∃ (a b : Addr) (kvs : List (List L2.Key × V)) (k : List L2.Key) (d : V), x = .ref a ∧ xs = [.ref b, d] ∧ H a = some (.dT kvs) ∧ H b = some (.tup (k.map kV)) ∧
  kvs.length < sizeLine ∧ (∀ v, valV kvs k = some v → Q v H) ∧ (valV kvs k = none → Q d (upd H a (.dT (putK kvs k d))))
theorem mt_setdT (hu : X.A.units + 1 < cLine) : MtR X "dict.setdefault" rSetdT := by
  intro pins s σ H x xs v us Q I rx rxs h
  obtain ⟨a, b, kvs, k, d, rfl, rfl, ea, eb, lz, there, new⟩ := h
  cases rx
  obtain ⟨u1, u2, rfl, r1, r2⟩ := vals2 rxs
  cases r1
  obtain ⟨z, hd, ys, rel, dd⟩ := dt_of I.hok ea
  have hz : ys.length ≤ sizeLine := by rw [← Paired.length rel]; exact z
  have rk := rel.val k
  refine call_setdefault_heap (hsz := hz) (tupleKind_room_in1 hu) (key_of I.hok eb) hd dd (fun p hp => ?_) fun hn h2 dd2 hs => ?_
  · rw [hp] at rk
    cases ev : valV kvs k with
    | none => rw [ev] at rk; exact (show False from rk).elim
    | some v0 =>
      rw [ev] at rk
      exact ⟨v0, H, I.tok _, rk, there v0 ev⟩
  · rw [hn] at rk
    have ev : valV kvs k = none := by
      cases q : valV kvs k with
      | none => rfl
      | some v0 => rw [q] at rk; exact (show False from rk).elim
    have hl : (putK kvs k d).length ≤ sizeLine := by have := length_putK kvs k d; omega
    obtain ⟨o, es, ep, ho, c1, c2, c3, _, c5⟩ := dd2
    have I2 : Inv X pins σ (upd H a (.dT (putK kvs k d))) { s with heap := h2, toks := s.toks + (tupleKind (mixKind X.prog X.w)).draws k } :=
      d_write I (by rw [ea]; exact True.intro) hs ⟨o, ho⟩ ⟨hl, hd, _, (rel.put k eb r2).keeps fun c zs ec => (by rw [upd_ne (ne_of ec ea (fun q => nomatch q))]; exact ec), o, es, ep, ho, c1, c2, c3, c5⟩
    exact ⟨d, _, I2, r2, new ev⟩
end

/-! ### items of a locked dict whose keys are tuples -/
section
variable {X : Cx} {pins : List (Addr × Obj)} {σ : L2.St} {H : Hp} {s : Shared} {d : Addr} {o : Obj}
theorem frzT_full {kvs : List (List L2.Key × V)} (I : Inv X pins σ H s) (h : H d = some (.frz o (.dT kvs))) :
    (d == sysModules) = false ∧ s.heap.get? d = some o ∧ o.ExactDict ∧ ∃ (es : Array DictEntry) (ep : Nat), o.data = .dict es ep ∧ es.size = kvs.length ∧
      ∀ (i : Nat) (k : List L2.Key) (v : V), kvs[i]? = some (k, v) → ∃ (en : DictEntry) (q : Addr), es[i]? = some en ∧ en.key = .ref q ∧ H q = some (.tup (k.map kV)) ∧ RelV v en.val := by
  obtain ⟨hd, z, hs, xs, pr, o2, es, ep, ho, hx, hdt, he, _⟩ := I.hok d _ h
  rw [hd] at ho
  cases ho
  have l1 : es.size = xs.length := size_of_entries he
  have l2 : kvs.length = xs.length := Paired.length pr
  refine ⟨hs, hd, hx, es, ep, hdt, by omega, fun i k v e => ?_⟩
  obtain ⟨b, hb, e1, e2, e3⟩ := paired_get pr e
  have q := entry_at he i
  rw [hb] at q
  exact ⟨_, b.2.1, q, rfl, e2, e3⟩
end
/-- a new pair (the key's tuple, the value) each turn -/
def ItiT (d : Addr) (o : Obj) (kvs : List (List L2.Key × V)) : It :=
  ⟨fun i H => H d = some (.frz o (.dT kvs)) ∧ i < kvs.length, fun i H x H' => ∃ (T q : Addr) (k : List L2.Key) (v : V), kvs[i]? = some (k, v) ∧ x = .ref T ∧ H T = none ∧ H q = some (.tup (k.map kV)) ∧ H' = upd H T (.tup [.ref q, v]),
    fun i H => H d = some (.frz o (.dT kvs)) ∧ kvs.length ≤ i⟩
section
variable {P : Program} {w : World} {K : PySem.W.Frag} {d : Addr} {o : Obj} {es : Array DictEntry} {ep : Nat} {kvs : List (List L2.Key × V)}
theorem turn_itemsT {elts : List Expr} {kk : Nat} {tpos : Pos} (it : Addr) (hne : d ≠ it) (hod : o.data = .dict es ep) (hes : es.size = kvs.length) :
    Turn P w K (.Tuple elts kk tpos) (ItiT d o kvs) [it] it (fun i h => ∃ ok ov, IsItemIter h it d i es.size ep ok ov) where
  mem := List.mem_singleton.mpr rfl
  obj := fun i h st b hb => by
    obtain rfl : b = it := List.mem_singleton.mp hb
    obtain ⟨ok, ov, e⟩ := st
    exact ⟨_, e, fun v z => nomatch z⟩
  keep := fun i h h2 st k => let ⟨ok, ov, e⟩ := st; ⟨ok, ov, k it (List.mem_singleton.mpr rfl) _ e⟩
  item := by
    intro X hP hw hK hc i pins s σ H E I hf st hg
    subst hP hw hK
    obtain ⟨hd, hi⟩ := hg
    obtain ⟨hs, hgd, hx, es2, ep2, hdt, hsz, ent⟩ := frzT_full I hd
    obtain ⟨rfl, rfl⟩ := dict_ep hod hdt
    obtain ⟨⟨k, v⟩, hkv⟩ : ∃ p, kvs[i]? = some p := ⟨kvs[i], List.getElem?_eq_getElem hi⟩
    obtain ⟨en, q, hen, hkey, hq, rv⟩ := ent i k v hkv
    obtain ⟨ok, ov, he⟩ := st
    have hlt : it < s.heap.objs.size := Heap.lt_size he
    obtain ⟨hil, hei⟩ := Array.getElem?_eq_some_iff.mp hen
    refine wpAny_pyNext_items_item_raw he ⟨o, hgd, hx, hdt⟩ hil fun h2 out tup _ kp => ?_
    refine ⟨_, rfl, wpAny_letOwnedTupleGo_items (s := { s with heap := h2 }) out fun h3 he3 sb => ?_⟩
    have tup3 : h3.get? s.heap.objs.size = some { cls := .type "tuple", data := .seq #[en.key, en.val] } := by
      rw [← hei]
      exact (sb.2 _ (Nat.ne_of_gt hlt)).trans tup
    have new : ObjOk X.prog X.w (upd H s.heap.objs.size (.tup [.ref q, v])) h3 s.heap.objs.size (.tup [.ref q, v]) :=
      ⟨by show 2 ≤ sizeLine; decide, [en.key, en.val], .cons hkey (.cons rv .nil), ⟨_, tup3, rfl, _, rfl⟩⟩
    have I1 : Inv X pins σ (upd H s.heap.objs.size (.tup [.ref q, v])) { s with heap := h3 } :=
      I.turnedNew (t' := s.toks) (ch := [it]) (fun b ob hb e => by
        have nb : b ≠ it := fun z => hb (List.mem_singleton.mpr z)
        exact (sb.2 b nb).trans (kp b ob nb e)) hf (Nat.le_refl _) new
    refine ⟨.ref s.heap.objs.size, _, I1, rfl, ⟨_, q, k, v, hkv, rfl, I.hok.fresh (Nat.le_refl _), hq, rfl⟩, ⟨_, _, he3⟩, fun b hb => ?_⟩
    obtain rfl : b = it := List.mem_singleton.mp hb
    rw [upd_ne (Nat.ne_of_lt hlt)]
    exact (hf b hb).1
  done := by
    intro X hP hw hK hc i pins s σ H E I hf st hg
    subst hP hw hK
    obtain ⟨hd, hi⟩ := hg
    obtain ⟨f0, f1, f2, f3, f4, f5⟩ := hf it (List.mem_singleton.mpr rfl)
    obtain ⟨hs, hgd, hx, es2, ep2, hdt, hsz, ent⟩ := frzT_full I hd
    obtain ⟨rfl, rfl⟩ := dict_ep hod hdt
    obtain ⟨ok, ov, he⟩ := st
    exact wpAny_pyNext_items_end_raw (I.ok.hd hc) he ⟨o, hgd, hx, hdt⟩ (by omega) fun h2 eb => ⟨rfl, I.turned (t' := s.toks) (fun b ob hb e => eb b ob hb e) f0 f1 f3 f4 f5⟩
  self := fun A i s Q E st h => let ⟨_, _, e⟩ := st; PySem.W.kcp_self e h
end
def iItemsT (td : TE) : TI := fun σ H R => td σ H fun x H1 => ∃ d o kvs, x = .ref d ∧ H1 d = some (.frz o (.dT kvs)) ∧ R (ItiT d o kvs) H1
/-- the dict is new (the expression's own): it is locked from here on -/
def iItemsF (td : TE) : TI := fun σ H R => td σ H fun x H1 => ∃ d kvs, x = .ref d ∧ H1 d = some (.dK kvs) ∧ ∀ o, R (Iti d o kvs) (upd H1 d (.frz o (.dK kvs)))
section
variable {X : Cx} {e : Expr} {td : TE} {apos cpos : Pos} {elts : List Expr} {kk : Nat} {tpos : Pos}
theorem pi_itemsT (he : PE X e td) (hbase : attributeBase e "items" X.env (eval e X.env) = eval e X.env := by rfl) (hline : (apos.endLine == cpos.line) = true := by rfl) :
    PI X (.Tuple elts kk tpos) (.Call (.Attribute e "items" apos) [] [] cpos) (iItemsT td) := by
  refine ⟨fun pins s σ H R I h => ?_⟩
  refine wpAny_Call_method (T := "dict") (id := "dict.items") hbase rfl hline F.plainAttrs_dict F.slot_dict_items F.type_dict_items (thn (he.run pins s σ H _ I h) fun u t ⟨x, H1, J, rx, d, o, kvs, ex, hd, q⟩ => ?_)
  subst ex
  obtain rfl : u = Value.ref d := rx
  obtain ⟨hs, hgd, hx, es, ep, hdt, hsz, ent⟩ := frzT_full J hd
  refine ⟨⟨o, hgd, hx.1⟩, fun a ea => (by cases ea; exact ⟨o, hgd, hx.2.1⟩), ?_⟩
  have J2 : Inv X pins σ H1 { t with heap := t.heap.push { cls := .type "dict_items", data := .fields #[.ref d] } } := J.kept (t' := t.toks) fun b ob q => Heap.get?_push_of_some _ q
  have raw : (t.heap.push { cls := .type "dict_items", data := .fields #[.ref d] }).DictRaw d es ep := ⟨o, Heap.get?_push_of_some _ hgd, hx, hdt⟩
  have fin : wpAny (model X.prog X.w) X.A (pyIter (.ref t.heap.objs.size)) (PIE X pins σ (.Tuple elts kk tpos) R) X.xe { t with heap := t.heap.push { cls := .type "dict_items", data := .fields #[.ref d] } } := by
    refine wpAny_pyIter_items_raw (d := d) ⟨_, Heap.get?_push_size _ rfl, rfl, rfl⟩ raw (pi_one (tk := t.toks) J2 _ (turn_itemsT _ ?_ hdt hsz) ⟨.none, .none, Heap.get?_push_size _ rfl⟩ q)
    exact Nat.ne_of_lt (Heap.lt_size (Heap.get?_push_of_some _ hgd))
  show wpAny _ _ (callWith cpos (.builtin "dict.items") [.ref d] [] []) _ X.xe t
  exact method_meetsIn F.slot_dict_items F.entry_dict_items rfl (PySem.evalArgs_none ⟨rfl, ⟨o, hgd, hx.1⟩, F.args_dict_items_1 _, _, meets_dict_items_raw d hs, ⟨es, ep, o, hgd, hx, hdt⟩, fin⟩)
theorem pi_itemsF (he : PE X e td) (hbase : attributeBase e "items" X.env (eval e X.env) = eval e X.env := by rfl) (hline : (apos.endLine == cpos.line) = true := by rfl) :
    PI X (.Tuple elts kk tpos) (.Call (.Attribute e "items" apos) [] [] cpos) (iItemsF td) := by
  refine ⟨fun pins s σ H R I h => ?_⟩
  -- the dict is locked, then as iItems has it
  have hq : PE X e (fun σ H Q => td σ H fun x H1 => ∃ d kvs, x = .ref d ∧ H1 d = some (.dK kvs) ∧ ∀ o, Q x (upd H1 d (.frz o (.dK kvs)))) := by
    refine ⟨fun pins s σ H Q I h => ?_⟩
    refine thn (he.run pins s σ H _ I h) fun u t ⟨x, H1, J, rx, d, kvs, ex, hd, q⟩ => ?_
    obtain ⟨od, J1⟩ := J.lock hd True.intro
    exact ⟨x, _, J1, rx, q od⟩
  refine (pi_items hq hbase hline).run pins s σ H R I ?_
  show td σ H _
  have ee : (fun (x : V) (H1 : Hp) => ∃ (d : Addr) (kvs : List (L2.Key × V)), x = V.ref d ∧ H1 d = some (HO.dK kvs) ∧ ∀ o : Obj, R (Iti d o kvs) (upd H1 d (HO.frz o (.dK kvs)))) =
      fun (x : V) (H1 : Hp) => ∃ (d : Addr) (kvs : List (L2.Key × V)), x = V.ref d ∧ H1 d = some (HO.dK kvs) ∧ ∀ o : Obj, ∃ (d' : Addr) (o' : Obj) (kvs' : List (L2.Key × V)), x = V.ref d' ∧ (upd H1 d (HO.frz o (.dK kvs))) d' = some (HO.frz o' (.dK kvs')) ∧ R (Iti d' o' kvs') (upd H1 d (HO.frz o (.dK kvs))) := by
    funext x H1
    refine propext ⟨?_, ?_⟩
    · rintro ⟨d, kvs, e1, e2, q⟩
      exact ⟨d, kvs, e1, e2, fun o => ⟨d, o, kvs, e1, upd_same, q o⟩⟩
    · rintro ⟨d, kvs, e1, e2, q⟩
      refine ⟨d, kvs, e1, e2, fun o => ?_⟩
      obtain ⟨d', o', kvs', e1', e2', q'⟩ := q o
      rw [e1] at e1'
      cases e1'
      rw [upd_same] at e2'
      cases e2'
      exact q'
  rw [← ee]
  exact h
end
theorem walk_itemsT {d : Addr} {o : Obj} {kvs : List (List L2.Key × V)} : Walk (ItiT d o kvs) kvs.length (fun H => H d = some (.frz o (.dT kvs)))
    (fun i H x H' => ∃ (T q : Addr) (k : List L2.Key) (v : V), kvs[i]? = some (k, v) ∧ x = .ref T ∧ H T = none ∧ H q = some (.tup (k.map kV)) ∧ H' = upd H T (.tup [.ref q, v])) :=
  ⟨fun _ _ hi q => ⟨q, hi⟩, fun _ q => ⟨q, Nat.le_refl _⟩, fun _ _ _ _ _ _ y => y⟩

/-! ### sorted of tuples of numbers and texts -/
/-- a number or a text as data -/
def dOf : V → PyData
  | .int i => .int i
  | .str x => .str x
  | _ => .none
def dTup (vs : List V) : PyData := .tuple (vs.map dOf)
/-- the sorted ones, by their rows -/
def srt {β : Type} (row : β → List V) (bs : List β) : List β := bs.mergeSort (PySem.W.dataLe false fun b => dTup (row b))
theorem srt_perm {β : Type} (row : β → List V) (bs : List β) : (srt row bs).Perm bs := List.mergeSort_perm _ _
theorem srt_le {β : Type} (row : β → List V) (bs : List β) : (srt row bs).Pairwise fun a b => PySem.W.dataLt (dTup (row b)) (dTup (row a)) = false := by
  have h := PySem.W.sort_pairwise (PySem.W.sortLe_total (PyProof.Rows.listOrd PyProof.Rows.itemOrd) false fun b => PySem.W.keyToks (dTup (row b))) bs
  refine h.imp fun {a b} q => ?_
  have q2 : (!PySem.W.dataLt (dTup (row b)) (dTup (row a))) = true := q
  cases e : PySem.W.dataLt (dTup (row b)) (dTup (row a)) with
  | false => rfl
  | true => rw [e] at q2; cases q2
/-- rows of one form: the kinds of places -/
def isI : V → Bool
  | .int _ => true
  | _ => false
def isS : V → Bool
  | .str _ => true
  | _ => false
/-- the rows stand at ts -/
abbrev Rws (H : Hp) (ts : List Addr) (bs : List (List V)) : Prop := Paired (fun (t : Addr) (b : List V) => H t = some (.tup b)) ts bs
theorem alike_of : ∀ {ks : List (V → Bool)} {xs ys : List V}, (∀ k ∈ ks, k = isI ∨ k = isS) → Paired (fun (k : V → Bool) x => k x = true) ks xs → Paired (fun (k : V → Bool) x => k x = true) ks ys → PySem.W.alikeAll (xs.map dOf) (ys.map dOf) = true
  | _, _, _, _, .nil, .nil => rfl
  | k :: ks, x :: xs, y :: ys, hk, .cons a r, .cons b q => by
    have ih := alike_of (fun k' h => hk k' (List.mem_cons_of_mem _ h)) r q
    show (PySem.W.alike (dOf x) (dOf y) && PySem.W.alikeAll (xs.map dOf) (ys.map dOf)) = true
    rw [ih, Bool.and_true]
    rcases hk k (List.mem_cons_self ..) with e | e
    · subst e
      cases x <;> first | cases a | skip
      cases y <;> first | cases b | skip
      rfl
    · subst e
      cases x <;> first | cases a | skip
      cases y <;> first | cases b | skip
      rfl
theorem reads_row {h : Heap} : ∀ {ks : List (V → Bool)} {xs : List V} {us : List Value}, (∀ k ∈ ks, k = isI ∨ k = isS) → Paired (fun (k : V → Bool) x => k x = true) ks xs → Vals xs us → ReadsAll h us (xs.map dOf) []
  | _, _, _, _, .nil, .nil => .nil
  | k :: ks, x :: xs, u :: us, hk, .cons a r, .cons b q => by
    have ih := reads_row (h := h) (fun k' h => hk k' (List.mem_cons_of_mem _ h)) r q
    rcases hk k (List.mem_cons_self ..) with e | e
    · subst e
      cases x <;> first | cases a | skip
      obtain ⟨t, rfl⟩ := b
      exact .cons (as := []) (.int _ _) ih
    · subst e
      cases x <;> first | cases a | skip
      obtain ⟨t, rfl⟩ := b
      exact .cons (as := []) (.str _ _) ih
theorem row_depth : ∀ (xs : List V), PyData.depthAll (xs.map dOf) = 0
  | [] => rfl
  | x :: xs => by
    have ih := row_depth xs
    cases x <;> simp [dOf, PyData.depthAll, PyData.depth, ih]
def rSortM (K : PySem.W.Frag) {β : Type} (row : β → List V) : List V → Hp → VK → Prop := fun vs H Q => ∃ (a : Addr) (ts : List Addr) (bs : List β) (k : V → Bool) (ks : List (V → Bool)), vs = [V.ref a] ∧ SqL K H a (ts.map V.ref) ∧ Rws H ts (bs.map row) ∧ (∀ k' ∈ k :: ks, k' = isI ∨ k' = isS) ∧
  (∀ b ∈ bs, Paired (fun (k : V → Bool) x => k x = true) (k :: ks) (row b)) ∧ ∀ (p : Addr) (ts' : List Addr), H p = none → Rws H ts' ((srt row bs).map row) → Q (.ref p) (upd H p (.lst (ts'.map V.ref)))
theorem each_of {H : Hp} {β : Type} {row : β → List V} {R : Value → β → Prop} : ∀ (ts : List Addr) (bs : List β) (us : List Value), Vals (ts.map V.ref) us → Rws H ts (bs.map row) → (∀ t b, t ∈ ts → b ∈ bs → H t = some (.tup (row b)) → R (.ref t) b) → PySem.W.EachIs R us bs
  | [], bs, us, r, q, h => by
    cases bs with
    | nil =>
      cases r
      exact .nil
    | cons b bs => cases q
  | t :: ts, bs, us, r, q, h => by
    cases r with
    | cons r1 r2 =>
      cases bs with
      | nil => cases q
      | cons b bs =>
        cases q with
        | cons e es =>
          rename_i u us
          obtain rfl : u = Value.ref t := r1
          exact .cons (h t b (List.mem_cons_self ..) (List.mem_cons_self ..) e) (each_of ts bs us r2 es fun t' b' m1 m2 e' => h t' b' (List.mem_cons_of_mem _ m1) (List.mem_cons_of_mem _ m2) e')
theorem of_each {H : Hp} {β : Type} {row : β → List V} : ∀ {us : List Value} {bs : List β}, PySem.W.EachIs (fun v b => ∃ t, v = Value.ref t ∧ H t = some (.tup (row b))) us bs → ∃ ts : List Addr, Vals (ts.map V.ref) us ∧ Rws H ts (bs.map row)
  | _, _, .nil => ⟨[], .nil, .nil⟩
  | _, _, .cons ⟨t, e, h⟩ r => by
    obtain ⟨ts, h1, h2⟩ := of_each r
    exact ⟨t :: ts, .cons e h1, .cons h h2⟩
section
variable {X : Cx}
theorem cr_sortM {β : Type} (row : β → List V) (hu : X.A.units + 64 < cLine) : CallR X (.builtin "sorted") (rSortM X.K row) := by
  intro pins s σ H vs us Q I r h
  obtain ⟨a, ts, bs, k, ks, rfl, hs, rw_, hk, hb, q⟩ := h
  obtain ⟨its, rv, hl, hz⟩ := I.list hs
  obtain ⟨u, rfl, ru⟩ := vals1 r
  obtain rfl : u = Value.ref a := ru
  have lb : bs.length = ts.length := by have := Paired.length rw_; rw [List.length_map] at this; omega
  have lt : its.length = ts.length := by have := rv.length; rw [List.length_map] at this; omega
  rw [List.length_map] at hz
  have e1 : PySem.W.EachIs (fun v b => ∃ t, v = Value.ref t ∧ H t = some (.tup (row b))) its bs := each_of _ _ _ rv rw_ fun t b _ _ e => ⟨t, rfl, e⟩
  have e2 : PySem.W.EachIs (fun v b => ∃ as, Reads s.heap v (dTup (row b)) as) its bs := each_of _ _ _ rv rw_ fun t b _ m e => by
    obtain ⟨_, us2, r2, o, ho, hc, n, hd⟩ := I.hok t _ e
    exact ⟨_, .tuple ho hc hd (by simpa using reads_row hk (hb b m) r2)⟩
  refine PySem.W.sorted_data (enc := fun b => dTup (row b)) hl.isList e1 e2 ?_ ?_ (by omega) (fun b _ => ?_) fun out l2 e3 => ?_
  · intro d hd d' hd'
    obtain ⟨b, m, rfl⟩ := List.mem_map.mp hd
    obtain ⟨b', m', rfl⟩ := List.mem_map.mp hd'
    exact alike_of hk (hb b m) (hb b' m')
  · refine .inl fun d hd => ?_
    obtain ⟨b, m, rfl⟩ := List.mem_map.mp hd
    have q := hb b m
    revert q
    cases e : row b with
    | nil =>
      intro q
      cases q
    | cons x r =>
      intro q
      exact ⟨_, _, rfl⟩
  · have e0 : (dTup (row b)).depth = 1 := by
      show PyData.depthAll ((row b).map dOf) + 1 = 1
      rw [row_depth]
    rw [e0]
    omega
  · obtain ⟨ts', v1, w1⟩ := of_each e3
    obtain ⟨n, hn⟩ := sortedAll_at s.heap its out.toArray
    have hf : H (s.heap.objs.size + 1) = none := I.hok.fresh (Nat.le_succ _)
    have zl : (ts'.map V.ref).length ≤ sizeLine := by
      rw [v1.length, l2, lb]
      omega
    refine ⟨.ref (s.heap.objs.size + 1), upd H (s.heap.objs.size + 1) (.lst (ts'.map V.ref)), I.laid (t' := s.toks) (fun b o e => sortedAll_old e) (Nat.le_succ _) ⟨zl, out, n, v1, hn⟩, rfl, q _ ts' hf w1⟩
end
end LT
/-! Promises of defs that are called where no repr is under way (A.guards = some []): repr of a list asks for that. -/
namespace LT
open PySem PySem.Spec PyProof.Rows L2
structure FnG (P : Program) (w : World) (K : PySem.W.Frag) (mg : Str → Option Value) (base : Heap) (k : Nat) (f : Addr) (fd : FuncData) (ps : List Str) (sp : Sp) : Prop where
  len : ∀ vs H Q E, sp vs H Q E → vs.length = ps.length
  run : ∀ (A : Around) (outer : List Env) (s : Shared) (H : Hp) (args : Args) (us : List Value) (vs : List V) (Q : VK), A.guards = some [] → Room k A → Env0 P w K mg base A outer s H →
    BindsTo s fd args (ps.zip us) → Vals vs us → sp vs H Q E0 → codeAny (model P w) A (.call (.ref f) args) (CR CX0 outer P w H s Q E0) s
theorem guards_deeper {A : Around} {env : Env} (h : A.guards = some []) : (A.deeper env).guards = some [] := h
section
variable {P : Program} {w : World} {K : PySem.W.Frag} {mg : Str → Option Value} {base : Heap} {x qual : Str} {params : Arguments} {body : List Stmt} {scope : Scope} {dvs : List V} {kws : List (Str × V)} {f : Addr} {fd : FuncData}
theorem okG {N ps : List Str} {k : Nat} {sp : Sp} (F : FunD K x qual params body scope dvs kws f fd) (S : FnScope N ps scope) (len : ∀ vs H Q E, sp vs H Q E → vs.length = ps.length)
    (hb : ∀ (cdv : Value) (A : Around) (outer : List Env) (s : Shared) (H : Hp) (vs : List V) (Q : VK), (A.deeper (envOfC qual scope s.heap.objs.size f cdv)).guards = some [] → Room k (A.deeper (envOfC qual scope s.heap.objs.size f cdv)) →
      sp vs H Q E0 → ∃ t, PSs (cxOf CX0 P w K mg base N qual scope f cdv A outer s H E0) body t ∧ t { nx := fun _ H' => Q .non H', rt := Q } (start N vs) H) : FnG P w K mg base (k + 1) f fd ps sp := by
  obtain ⟨oc, od, dV, kV, doc, pm, an, cdv, ct, osl, rfl, lk, hcd, _, _⟩ := F.ex
  refine ⟨len, fun A outer s H args us vs Q hg hr e0 bnd r hsp => ?_⟩
  have kin : K.In s.heap := e0.mod.kin.keeps fun b o e => (e0.bs b o e).1
  have lim : s.heap.NoLimit := e0.mod.nolimit.keeps fun b o e => (e0.bs b o e).1
  have kinds : ∀ y ∈ ps.zip us, scope.names.lookup y.1 = some .local ∨ (scope.names.lookup y.1 = some .cell ∧ ((cellsFrom (s.heap.objs.size + 1) scope.names []).lookup y.1).isSome = true) := by
    intro y hy
    obtain ⟨n, v⟩ := y
    cases S.par n (List.of_mem_zip hy).1 with
    | inl q => exact .inl q
    | inr q => exact .inr ⟨q, PySem.W.cellsFrom_some _ _ _ (.inl q)⟩
  refine codeAny_call_function hr.depth (kin _ _ lk) rfl S.co S.gen rfl (PySem.W.codeRec_of kin hcd) (bnd _ _ _ _ ?_)
  refine wpAny_newFunctionEnv_cells S.kind kinds fun env ee s1 ic => ?_
  subst ee
  refine ⟨lim.keeps ic.toInCall.keep, codeAny_func ?_⟩
  obtain ⟨t, ht, hq⟩ := hb cdv A outer s H vs Q (guards_deeper hg) (hr.deeper _) hsp
  have I : Inv (cxOf CX0 P w K mg base N qual scope f cdv A outer s H E0) [] (start N vs) H s1 := inv_start S hr.hd e0 (len _ _ _ _ hsp) r ic
  have out : ∀ (σ' : L2.St) (H' : Hp) (v : V) (u : Value) (s2 : Shared), Inv (cxOf CX0 P w K mg base N qual scope f cdv A outer s H E0) [] σ' H' s2 → RelV v u → Q v H' → CE outer P w H s Q u s2 :=
    fun _ H' v _ _ J rv q => ⟨v, H', J.os, J.bare, J.base, J.hok, rv, q⟩
  refine wpAny_mono (ht.run [] s1 (start N vs) H _ I hq) ?_ fun _ _ z => z
  intro fl s2 hs
  match fl, hs with
  | .ret u, ⟨v, σ', H', J, rv, q⟩ => exact out σ' H' v u s2 J rv q
  | .next, ⟨σ', H', J, q⟩ => exact out σ' H' .non .none s2 J rfl q
  | .brk, ⟨_, _, _, q⟩ => exact q.elim
  | .cont, ⟨_, _, _, q⟩ => exact q.elim
end
section
variable {X : Cx} {k : Nat} {f : Addr} {fd : FuncData} {ps : List Str} {sp : Sp} {x : Str} {p pos : Pos} {e : Expr} {es : List Expr} {t : TA}
/-- f(e, ..) where no repr is under way -/
theorem pe_callG (F : FnG X.prog X.w X.K X.mg X.base k f fd ps sp) (gd : X.A.guards = some []) (hr : Room k X.A) (hg : Gl X x) (hm : X.mg x = some (.ref f)) (hk : PySem.W.keepIn X.K (.ref f) = true) (hb : Binds X.K fd ps [])
    (ha : PA X (e :: es) t) (hdb : (x == ("__debug__" : Str)) = false := by decide) (he : starEach (e :: es) X.env = (false, eval e X.env) :: starEach es X.env := by rfl) (hpl : (backTo pos (starEach es X.env)).any (·.1) = false := by rfl) :
    PE X (.Call (.Name x p) (e :: es) [] pos) (tCall sp [] E0 t) := by
  refine ⟨fun pins s σ H Q I h => wpAny_Call_Name_kw (ld_glob I hg hm ?_ hdb)⟩
  refine PySem.W.callWith_K (h₀ := X.base) I.ok.mod.kin hk ?_ he hpl
  refine thn (ha.run pos pins s σ H _ I h) fun us s1 h1 => ?_
  obtain ⟨vs, H1, J, r, q⟩ := h1
  rw [List.append_nil] at q
  refine ⟨J.kIn, ?_⟩
  have hl : us.length = ps.length := by rw [← r.length]; exact F.len _ _ _ _ q
  have hb2 : BindsTo s1 fd ⟨us, []⟩ (ps.zip us) := by
    have z := hb s1 us J.kIn (by rw [List.append_nil]; exact hl)
    rw [List.append_nil] at z
    exact z
  refine wpAny_call (codeAny_mono (F.run X.A X.stack s1 H1 ⟨us, []⟩ us vs Q gd hr J.env0 hb2 r q) fun r s2 hq => ?_)
  match r, hq with
  | .ok (.ret u), hq => exact J.after hq
end
/-- the end of a law whose promise asks that no repr is under way -/
theorem law_callG {P : Program} {w : World} {K : PySem.W.Frag} {mg mb : Str → Option Value} {k : Nat} {fa a : Addr} {fd : FuncData} {x : Str} {sp : Sp} {s1 : Shared} {vs : List Value} {ns : List Int}
    (KX : K.In s1.heap) (hns : s1.heap.Ns mainGlobals mg) (hb : s1.heap.Ns builtinsNs mb) (hbb : ∀ x : Str, x ≠ "__name__" → mb x = bootBuiltins x) (hlim : s1.heap.NoLimit) (hg : s1.gens = #[])
    (ha : s1.heap.get? a = some { cls := .type "list", data := .seq vs.toArray }) (hi : IntsAre vs ns) (hl : ns.length ≤ sizeLine) (hr : Room k callerA)
    (F : ∀ base : Heap, K.In base → base.Ns mainGlobals mg → FnG P w K mg base k fa fd [x] sp) (hbind : ∀ (s : Shared) (u : Value), BindsTo s fd ⟨[u], []⟩ [(x, u)])
    (hsp : ∀ H : Hp, Only H → SqL K H a (ns.map V.int) → sp [.ref a] H (fun v _ => v = .bl true) E0) :
    codeAny (model P w) callerA (.call (.ref fa) ⟨[.ref a], []⟩) (fun r s' => r = .ok (.ret (.bool true)) ∧ OldK s1.heap s'.heap ∧ s'.os = s1.os ∧ AllBare s'.gens) s1 := by
  have rv := vals_ints hi
  -- the abstract heap: the script alone, where the written part has it not
  have main : ∀ H : Hp, Only H → SqL K H a (ns.map V.int) → HOk P w H s1.heap → (∀ b, H b ≠ none → b = a ∧ K.lookup a = none) →
      codeAny (model P w) callerA (.call (.ref fa) ⟨[.ref a], []⟩) (fun r s' => r = .ok (.ret (.bool true)) ∧ OldK s1.heap s'.heap ∧ s'.os = s1.os ∧ AllBare s'.gens) s1 := by
    intro H hO hS hok hA
    have dictFree : ∀ {b : Addr} {o : Obj} {es : Array DictEntry} {ep : Nat}, s1.heap.get? b = some o → o.data = .dict es ep → H b = none := by
      intro b o es ep e d
      refine Classical.byContradiction fun q => ?_
      obtain ⟨rfl, _⟩ := hA b q
      rw [ha] at e
      cases e
      cases d
    have nsB : ∀ {b : Addr} {m : Str → Option Value}, s1.heap.Ns b m → (hidT s1.heap H).Ns b m := by
      rintro b m ⟨o, es, ep, e, d, r⟩
      exact ⟨o, es, ep, hidT_get e (dictFree e d), d, r⟩
    have kB : K.In (hidT s1.heap H) := by
      intro b o e
      refine hidT_get (KX b o e) (Classical.byContradiction fun q => ?_)
      obtain ⟨rfl, hn⟩ := hA b q
      rw [hn] at e
      cases e
    have mB : Mod K mg (hidT s1.heap H) := by
      obtain ⟨mc, l1, l2⟩ := hlim
      exact ⟨kB, nsB hns, ⟨mb, nsB hb, hbb⟩, ⟨mc, nsB l1, l2⟩⟩
    have e0 : Env0 P w K mg (hidT s1.heap H) callerA [] s1 H :=
      ⟨rfl, mB, fun _ _ e => of_hidT e, Nat.le_of_eq (hidT_size _ _), trivial, fun b hb => (by cases hb), hok, .of_eq hg⟩
    have go := (F _ kB (nsB hns)).run callerA [] s1 H ⟨[.ref a], []⟩ [.ref a] [.ref a] _ rfl hr e0 (hbind s1 (.ref a)) (.cons rfl .nil) (hsp H hO hS)
    refine codeAny_mono go fun r s2 h => ?_
    match r, h with
    | .ok (.ret u), ⟨v, H2, os, bare, un, hok2, r2, q⟩ =>
      have q2 : v = .bl true := q
      subst q2
      obtain rfl : u = Value.bool true := r2
      refine ⟨rfl, OldK.of_keep fun b o e => ?_, os, bare⟩
      cases hO b with
      | inl z => exact un.keep b o e z (fun m => by cases m) (fun m => by cases m)
      | inr z =>
        obtain ⟨ob, xs, z⟩ := z
        have z1 := (hok b _ z).1
        have z2 := (hok2 b _ (un.frzs b ob _ z)).1
        rw [e] at z1
        cases z1
        exact z2
  cases hk : K.lookup a with
  | some o =>
    have e := KX a o hk
    rw [ha] at e
    cases e
    have zl : vs.toArray.size ≤ sizeLine := by rw [List.size_toArray, hi.length]; exact hl
    refine main (fun _ => none) (fun _ => .inl rfl) (.inr ⟨_, vs.toArray, _, hk, rfl, rfl, rfl, zl, by simpa using rv⟩) (fun b u z => ?_) fun b z => absurd rfl z
    cases (show (none : Option HO) = some u from z)
  | none =>
    let H0 : Hp := fun b => if b = a then some (.frz { cls := .type "list", data := .seq vs.toArray } (.lst (ns.map V.int))) else none
    have at_a : H0 a = some (.frz { cls := .type "list", data := .seq vs.toArray } (.lst (ns.map V.int))) := if_pos rfl
    have off_a : ∀ b, b ≠ a → H0 b = none := fun b hb => if_neg hb
    refine main H0 (fun b => ?_) (.inl (.inr ⟨_, at_a⟩)) (fun b u z => ?_) fun b z => ?_
    · by_cases hb : b = a
      · subst hb; exact .inr ⟨_, _, at_a⟩
      · exact .inl (off_a b hb)
    · by_cases hb : b = a
      · subst hb
        rw [at_a] at z
        cases z
        exact ⟨ha, by rw [List.length_map]; exact hl, vs, _, rv, ha⟩
      · rw [off_a b hb] at z
        cases z
    · by_cases hb : b = a
      · exact ⟨hb, hk⟩
      · exact absurd (off_a b hb) z
theorem walk_ofG {l : PySem.W.OpenLaw} {n k : Nat} {q : Program} {loose : List Str} {XP : (Str → Option Value) → Heap → Prop} {YP : World → Heap → Prop} {d : DefRec} {x : Str}
    (hn : l.most = some n) (hn2 : n ≤ sizeLine) (hdf : d.params.defaults = []) (hr : Room k callerA)
    (F : ∀ (w : World) (mg : Str → Option Value) (fa : Addr) (h : Heap), YP w h → h.Ns mainGlobals mg → mg d.name = some (.ref fa) →
      ∃ (K : PySem.W.Frag) (fd : FuncData) (sp : Sp), K.In h ∧ (∀ (s : Shared) (u : Value), BindsTo s fd ⟨[u], []⟩ [(x, u)]) ∧
        (∀ (H : Hp) (a : Addr) (ns : List Int), ns.length ≤ n → Only H → SqL K H a (ns.map V.int) → sp [.ref a] H (fun v _ => v = .bl true) E0) ∧
        ∀ base : Heap, K.In base → base.Ns mainGlobals mg → FnG l.prog w K mg base k fa fd [x] sp) :
    PySem.W.WalkO q loose XP YP l.row.toRowW d [] (fun f vs => PySem.call f vs) := by
  refine Att.attach_call hn hdf ?_
  intro w s0 s1 mg mb fa o pm cd doc a vs ns G Y ho hd hcd hmg hobj hints hlen hg
  obtain ⟨K, fd, sp, KX, hb, hsp, hF⟩ := F w mg fa _ Y G.T.g hmg
  exact law_callG KX G.T.g G.T.b G.T.builtins G.T.nolimit hg hobj hints (Nat.le_trans hlen hn2) hr hF hb fun H hO hS => hsp H a ns hlen hO hS
end LT
/-! repr of nested lists and tuples whose items may be instances with a __repr__ of their own. -/
namespace LT
open PySem PySem.Spec PyProof.Rows L2
/-- all that is under way lies in G -/
def GdOk (G : Addr → Prop) (g : List Code) : Prop := ∀ id v rest kw, Code.builtin id ⟨v :: rest, kw⟩ ∈ g → ∃ c, v = Value.ref c ∧ G c
theorem GdOk.nil (G : Addr → Prop) : GdOk G [] := fun _ _ _ _ h => nomatch h
theorem GdOk.clear {G : Addr → Prop} {g : List Code} {b : Addr} (h : GdOk G g) (n : ¬ G b) : Clear g b := by
  intro id v rest kw m e
  obtain ⟨c, e2, hc⟩ := h id v rest kw m
  rw [e2] at e
  cases e
  exact n hc
theorem GdOk.push {G : Addr → Prop} {g : List Code} {a : Addr} {id : String} {rest : List Value} (h : GdOk G g) : GdOk (fun c => G c ∨ c = a) (.builtin id ⟨.ref a :: rest, []⟩ :: g) := by
  intro i v r kw m
  rcases List.mem_cons.mp m with e | m
  · cases e
    exact ⟨a, rfl, .inr rfl⟩
  · obtain ⟨c, e, hc⟩ := h i v r kw m
    exact ⟨c, e, .inl hc⟩
/-- where a repr runs: n levels of room, what is under way lies in G -/
structure RA (X : Cx) (n : Nat) (G : Addr → Prop) (A : Around) : Prop where
  fr : A.frames = some X.stack
  rm : Room n A
  gd : ∃ g, A.guards = some g ∧ GdOk G g
theorem RA.in1 {X : Cx} {n : Nat} {G : Addr → Prop} {A : Around} (h : RA X (n + 1) G A) : RA X n G A.in1 := ⟨h.fr, h.rm.in1, h.gd⟩
theorem RA.mono {X : Cx} {n m : Nat} {G : Addr → Prop} {A : Around} (h : RA X n G A) (l : m ≤ n) : RA X m G A := ⟨h.fr, h.rm.mono l, h.gd⟩
theorem RA.under {X : Cx} {n : Nat} {G : Addr → Prop} {A : Around} {id : String} {a : Addr} {rest : List Value} (h : RA X (n + 1) G A) (hc : (Code.builtin id ⟨.ref a :: rest, []⟩).isGuard = true)
    (he : (Code.builtin id ⟨.ref a :: rest, []⟩).envs = []) (hw : (Code.builtin id ⟨.ref a :: rest, []⟩).weight ≤ 3) (hu : (Code.builtin id ⟨.ref a :: rest, []⟩).cUnits ≤ 16) :
    RA X n (fun c => G c ∨ c = a) (A.under (.builtin id ⟨.ref a :: rest, []⟩)) := by
  obtain ⟨g, hg, ok⟩ := h.gd
  refine ⟨?_, ⟨h.rm.hd, ?_, ?_⟩, _, guards_under_guard hc hg, ok.push⟩
  · show pushEnvs (Code.builtin id ⟨.ref a :: rest, []⟩).envs A.frames = _
    rw [he]
    exact h.fr
  · show A.depth + (Code.builtin id ⟨.ref a :: rest, []⟩).weight + 3 * n + 5 < _
    have := h.rm.dp
    omega
  · show A.units + (Code.builtin id ⟨.ref a :: rest, []⟩).cUnits + 16 * n + 200 < _
    have := h.rm.un
    omega
theorem RA.list {X : Cx} {n : Nat} {G : Addr → Prop} {A : Around} {a : Addr} {rest : List Value} (h : RA X (n + 1) G A) : RA X n (fun c => G c ∨ c = a) (A.under (.builtin "list.__repr__.loop" ⟨.ref a :: rest, []⟩)) :=
  h.under (isGuard_list_loop _) rfl (by simp [Code.weight, Code.isGuard, Code.isCreation, Code.isCaller, Code.frames, Code.isFrame, guardIds]) (by first | decide | simp [Code.cUnits, Code.frames, Code.isFrame])
theorem RA.tup {X : Cx} {n : Nat} {G : Addr → Prop} {A : Around} {a : Addr} {rest : List Value} (h : RA X (n + 1) G A) : RA X n (fun c => G c ∨ c = a) (A.under (.builtin "tuple.__repr__.under" ⟨.ref a :: rest, []⟩)) :=
  h.under (isGuard_tuple_repr_under _) rfl (by simp [Code.weight, Code.isGuard, Code.isCreation, Code.isCaller, Code.frames, Code.isFrame, guardIds]) (by first | decide | simp [Code.cUnits, Code.frames, Code.isFrame])

/-- the repr of x, in a heap that has what H0 has, is t -/
def RH (X : Cx) (n : Nat) (G : Addr → Prop) (H0 : Hp) (x : V) (t : Str) : Prop :=
  ∀ (base : Nat), base + t.length ≤ sizeLine → ∀ (A : Around) (pins : List (Addr × Obj)) (σ : L2.St) (H : Hp) (s : Shared) (u : Value) (E : Value → Shared → Prop) (Q : Str → Shared → Prop), RA X n G A → Inv X pins σ H s → Same H0 H → RelV x u →
    (∀ H' s', Inv X pins σ H' s' → Same H H' → Q t s') → wpAny (model X.prog X.w) A (pyReprUnder base u) Q E s
section
variable {X : Cx} {n : Nat} {G : Addr → Prop} {H0 : Hp}
theorem RH.of_is {x : V} {t : Str} (h : ∀ u, RelV x u → ReprIs X.prog X.w u t) : RH X n G H0 x t :=
  fun base hb A pins σ H s u E Q _ I _ r q => h u r base hb A E s Q fun tk => q H _ (I.tok tk) (Same.refl H)
theorem RH.int {i : Int} (h : i.natAbs.log2 < 1920) : RH X n G H0 (.int i) (toString i) := RH.of_is fun u r => by
  obtain ⟨t, rfl⟩ := r
  exact ReprIs.int t h
theorem RH.str {x : Str} (h : (reprText x).length ≤ sizeLine) : RH X n G H0 (.str x) (reprText x) := RH.of_is fun u r => by
  obtain ⟨t, rfl⟩ := r
  exact ReprIs.str x t h
theorem RH.guard {x : V} {t : Str} {G' : Addr → Prop} (h : RH X n G H0 x t) (i : ∀ c, G' c → G c) : RH X n G' H0 x t :=
  fun base hb A pins σ H s u E Q ra => h base hb A pins σ H s u E Q ⟨ra.fr, ra.rm, let ⟨g, e, o⟩ := ra.gd; ⟨g, e, fun id v r kw m => let ⟨c, e, hc⟩ := o id v r kw m; ⟨c, e, i c hc⟩⟩⟩
theorem RH.more {x : V} {t : Str} {H1 : Hp} {m : Nat} (h : RH X n G H0 x t) (i : Same H0 H1) (l : n ≤ m) : RH X m G H1 x t :=
  fun base hb A pins σ H s u E Q ra I q => h base hb A pins σ H s u E Q (ra.mono l) I (i.trans q)

/-! ### a list -/
theorem vals_at {xs : List V} {us : List Value} (r : Vals xs us) {i : Nat} (h : i < xs.length) : ∃ u, us[i]? = some u ∧ RelV xs[i] u := r.get (List.getElem?_eq_getElem h)
theorem paired_at {α β : Type} {F : α → β → Prop} {as : List α} {bs : List β} (p : Paired F as bs) {i : Nat} (h : i < as.length) : ∃ b, bs[i]? = some b ∧ F as[i] b := paired_get p (List.getElem?_eq_getElem h)
theorem list_loop {a P : Addr} {xs : List V} {ts : List Str} {base : Nat} {A : Around} {R : Result → Shared → Prop} (ha0 : H0 a = some (.lst xs)) (ra : RA X (n + 1) G A) (hT : Paired (fun x t => RH X n (fun c => G c ∨ c = a) H0 x t) xs ts)
    (hsz : base + (listText ts).length ≤ sizeLine) : ∀ (k i : Nat) (pins : List (Addr × Obj)) (σ : L2.St) (H : Hp) (s : Shared) (acc : Array Value) (c : Nat) (done : List (Str × Tok)), xs.length - i = k → i ≤ xs.length → Inv X pins σ H s → Same H0 H → FpOk X pins H P →
      s.heap.get? P = some { cls := .type "list", dict := none, data := .seq acc c, slots := #[] } → acc.toList = strValues done → done.map (·.1) = ts.take i →
      (∀ H' s' u, Inv X pins σ H' s' → Same H H' → R (.ok (.ret (.str (listText ts) u))) s') →
      codeAny (model X.prog X.w) A (.builtin "list.__repr__.loop" ⟨[.ref a, rawInt i, .ref P, rawInt ((base + piled (ts.take i) : Nat) : Int)], []⟩) R s := by
  have lts : xs.length = ts.length := Paired.length hT
  have eX : (listText ts).length = (textFrom 0 "[" ts).length + 1 := by
    show (textFrom 0 "[" ts ++ "]").length = _
    rw [strLen_append]; rfl
  have eL := textFrom_len ts 0 "["
  have z1 : ts.length ≤ sizeLine := by
    have q := eL.1
    rw [if_neg (Nat.lt_irrefl 0)] at q
    omega
  have z2 : ∀ t ∈ ts, t.length ≤ sizeLine := fun t ht => by have := eL.2.1 t ht; omega
  have z3 := piled_le_listText ts
  intro k
  induction k with
  | zero =>
    intro i pins σ H s acc c done hk hi I sm fp hP hacc hdone hR
    have ei : i = xs.length := by omega
    obtain ⟨_, its, m, rv, ga⟩ := I.hok a _ (sm a _ ha0)
    have li : its.length = xs.length := rv.length.symm
    refine codeAny_builtin F.entry_list_repr_loop ?_
    show wpAny _ _ (Builtin.«list.__repr__.loop» ⟨[.ref a, .int i 0, .ref P, .int ((base + piled (ts.take i) : Nat) : Int) 0], []⟩) _ _ s
    rw [repr_loop_tree]
    refine wpAny_bind (wpAny_listItems ga rfl ?_)
    have none : its.toArray[(i : Int).toNat]? = none := by
      rw [Int.toNat_natCast]
      exact Array.getElem?_eq_none (by simp; omega)
    simp only [none]
    unfold reprEnd
    refine wpAny_bind (wpAny_listItems hP rfl ?_)
    rw [hacc, repr_fold]
    refine wpAny_bind (wpAny_pure ?_)
    have all : done.map (·.1) = ts := by rw [hdone, ei, lts, List.take_length]
    rw [all]
    refine wpAny_bind (wpAny_mkStr (wpAny_pure ?_) (by show (listText ts).length ≤ _; omega))
    exact hR H _ _ (I.tok _) (Same.refl H)
  | succ k ih =>
    intro i pins σ H s acc c done hk hi I sm fp hP hacc hdone hR
    have hlt : i < xs.length := by omega
    obtain ⟨_, its, m, rv, ga⟩ := I.hok a _ (sm a _ ha0)
    obtain ⟨u, hu, ru⟩ := vals_at rv hlt
    obtain ⟨t, ht, hrep⟩ := paired_at hT hlt
    have p1 := piled_take_succ ht
    have p2 := piled_take_le ts (i + 1)
    refine codeAny_builtin F.entry_list_repr_loop ?_
    show wpAny _ _ (Builtin.«list.__repr__.loop» ⟨[.ref a, .int i 0, .ref P, .int ((base + piled (ts.take i) : Nat) : Int) 0], []⟩) _ _ s
    rw [repr_loop_tree]
    refine wpAny_bind (wpAny_listItems ga rfl ?_)
    have some_ : its.toArray[(i : Int).toNat]? = some u := by rw [Int.toNat_natCast]; simpa using hu
    simp only [some_]
    rw [Int.toNat_natCast]
    have I1 := I.pinned (fp := [P]) (fun b hb => by obtain rfl := List.mem_singleton.mp hb; exact fp) fun b hb => by
      obtain rfl := List.mem_singleton.mp hb
      exact ⟨_, hP, fun v z => by cases z⟩
    refine wpAny_bind (wpAny_holding (hrep (base + piled (ts.take i) + 1) (by omega) _ _ σ H s u _ _ ra.list I1 sm ru fun H2 s2 I2 sm2 => ?_))
    have pP := I2.pin (P, _) (List.mem_append_right _ (List.mem_append_right _ (mem_pinsAt (List.mem_singleton.mpr rfl) hP)))
    have hP2 : s2.heap.get? P = some { cls := .type "list", dict := none, data := .seq acc c, slots := #[] } := pP.1
    have I3 := I2.unpinned
    have fp2 : FpOk X pins H2 P := ⟨pP.2.1, fp.2⟩
    refine wpAny_bind (wpAny_mkStr ?_ (z2 t (List.mem_of_getElem? ht)))
    refine wpAny_bind ?_
    show wpAny _ _ (updateSeq P _) _ _ _
    have hasz : acc.size ≤ sizeLine := by
      have e1 : acc.toList.length = acc.size := Array.length_toList
      have e2 : (strValues done).length = done.length := by simp [strValues]
      have e3 : done.length = (ts.take i).length := by rw [← hdone, List.length_map]
      have e4 : (ts.take i).length ≤ ts.length := List.length_take_le' ..
      rw [hacc] at e1
      omega
    refine wpAny_updateSeq hP2 rfl (wpAny_pure ⟨F.quiet_list_repr_loop _, ?_⟩) hasz
    have n1 : ((i : Int) + 1) = ((i + 1 : Nat) : Int) := by omega
    have n2 : base + piled (ts.take i) + (t.length + 2) = base + piled (ts.take (i + 1)) := by omega
    rw [n1, n2]
    have I4 := I3.turned (it := P) (h' := s2.heap.update P (Obj.mapSeq (·.push (.str t s2.toks)))) (t' := s2.toks + 1) (fun b o hb e => (Heap.get?_update_other _ _ (fun h : P = b => hb h.symm)).trans e) fp2.1 fp2.2.1 fp2.2.2.2.1 fp2.2.2.2.2.1 fp2.2.2.2.2.2
    refine ih (i + 1) pins σ H2 _ (acc.push (.str t s2.toks)) _ (done ++ [(t, s2.toks)]) (by omega) hlt I4 (sm.trans sm2) fp2 (Heap.get?_update_self _ hP2 rfl) (by simp [hacc, strValues]) (by simp [List.take_add_one, ht, hdone]) fun H5 s5 u5 I5 sm5 => ?_
    exact hR H5 s5 u5 I5 (sm2.trans sm5)
theorem list_at {a : Addr} {xs : List V} {ts : List Str} {base : Nat} {A : Around} {R : Result → Shared → Prop} {pins : List (Addr × Obj)} {σ : L2.St} {H : Hp} {s : Shared} (ha0 : H0 a = some (.lst xs)) (ng : ¬ G a) (ra : RA X (n + 1) G A)
    (hT : Paired (fun x t => RH X n (fun c => G c ∨ c = a) H0 x t) xs ts) (hsz : base + (listText ts).length ≤ sizeLine) (I : Inv X pins σ H s) (sm : Same H0 H) (hR : ∀ H' s' u, Inv X pins σ H' s' → Same H H' → R (.ok (.ret (.str (listText ts) u))) s') :
    wpAny (model X.prog X.w) A.in1 (Builtin.listReprAt base ⟨[.ref a], []⟩) (fun fin s' => match fin with | .done f => R (.ok f) s' | .again c' => c'.quiet = true ∧ codeAny (model X.prog X.w) A c' R s') (fun e s' => R (.error e) s') s := by
  obtain ⟨g, hg, ok⟩ := ra.gd
  obtain ⟨z, its, m, rv, ga⟩ := I.hok a _ (sm a _ ha0)
  cases xs with
  | nil =>
    cases hT
    cases rv
    exact wpAny_list_repr_empty ga rfl (hR H _ _ (I.tok _) (Same.refl H))
  | cons x xs =>
    cases rv with
    | cons r1 r2 =>
      rename_i u us
      refine wpAny_list_repr_head (A := A.in1) hg (fun v rest kw hm => listSameRef_of_ne (ok.clear ng _ _ _ _ hm)) ga rfl ?_
      refine wpAny_bind (m := newList []) (wpAny_newObj_type ?_)
      refine wpAny_pure ⟨F.quiet_list_repr_loop _, ?_⟩
      have I1 := I.kept (t' := s.toks) (h' := s.heap.push { cls := .type "list", data := .seq #[] }) fun b o e => Heap.get?_push_of_some _ e
      exact list_loop ha0 ra hT hsz _ 0 pins σ H _ #[] _ [] rfl (Nat.zero_le _) I1 sm (I.fpOk (Nat.le_refl _) (I.hok.fresh (Nat.le_refl _))) (Heap.get?_push_size _ rfl) rfl (by simp) hR
theorem RH.list {a : Addr} {xs : List V} {ts : List Str} (ha0 : H0 a = some (.lst xs)) (ng : ¬ G a) (hT : Paired (fun x t => RH X n (fun c => G c ∨ c = a) H0 x t) xs ts) : RH X (n + 1) G H0 (.ref a) (listText ts) := by
  intro base hb A pins σ H s u E Q ra I sm r q
  obtain rfl : u = Value.ref a := r
  obtain ⟨z, its, m, rv, ga⟩ := I.hok a _ (sm a _ ha0)
  have hu := ra.rm.units0
  refine wpAny_pyReprUnder_ref (by omega) (wpAny_pyReprObjUnder_twin (twin := "list.__repr__.under") ⟨_, ga, rfl⟩ F.slot_list_repr.toG rfl hu ?_)
  refine call_twin_plain F.plain_list_repr_under F.entry_list_repr_under F.check_list_repr_under ⟨_, ga, rfl⟩ F.slot_list_repr.toG (F.args_list_repr_1 _) ?_
  exact list_at (R := callEnd _ E) ha0 ng ra hT hb I sm fun H2 s2 u2 I2 sm2 => ⟨⟨_, _, rfl⟩, _, _, rfl, q H2 s2 I2 sm2⟩

/-! ### a tuple -/
theorem tup_fold {A : Around} {E : Value → Shared → Prop} {pins : List (Addr × Obj)} {σ : L2.St} (ra : RA X n G A) : ∀ (xs : List V) (us : List Value) (ts : List Str) (acc : Array Str) (b : Nat) (H : Hp) (s : Shared) (Q : (Array Str × Nat) → Shared → Prop), Paired (fun x t => RH X n G H0 x t) xs ts → Vals xs us → b + piled ts ≤ sizeLine →
    Inv X pins σ H s → Same H0 H → (∀ H' s', Inv X pins σ H' s' → Same H H' → Q ⟨acc ++ ts.toArray, b + piled ts⟩ s') → wpAny (model X.prog X.w) A (forIn us (⟨acc, b⟩ : (Array Str × Nat)) tupBody) Q E s
  | _, _, _, acc, b, H, s, Q, .nil, .nil, _, I, sm, h => by
    have h0 := h H s I (Same.refl H)
    simp only [List.forIn_nil]
    exact wpAny_pure (by simpa [piled] using h0)
  | x :: xs, u :: us, t :: ts, acc, b, H, s, Q, .cons hx hl, .cons r rr, hz, I, sm, h => by
    rw [piled_cons] at hz
    rw [List.forIn_cons]
    refine wpAny_bind (wpAny_bind (hx (b + 1) (by omega) A pins σ H s u _ _ ra I sm r fun H1 s1 I1 sm1 => wpAny_pure ?_))
    refine tup_fold ra xs us ts (acc.push t) (b + (t.length + 2)) H1 s1 Q hl rr (by omega) I1 (sm.trans sm1) fun H2 s2 I2 sm2 => ?_
    have q := h H2 s2 I2 (sm1.trans sm2)
    have e : b + piled (t :: ts) = b + (t.length + 2) + piled ts := by rw [piled_cons]; omega
    rw [e] at q
    simpa using q
theorem RH.tuple {a : Addr} {xs : List V} {ts : List Str} (ha0 : H0 a = some (.tup xs)) (ng : ¬ G a) (hT : Paired (fun x t => RH X n (fun c => G c ∨ c = a) H0 x t) xs ts) : RH X (n + 1) G H0 (.ref a) (tupleText ts) := by
  intro base hb A pins σ H s u E Q ra I sm r q
  obtain rfl : u = Value.ref a := r
  obtain ⟨z, its, rv, o, ho, hc, m, hd⟩ := I.hok a _ (sm a _ ha0)
  have lts : xs.length = ts.length := Paired.length hT
  have lit := rv.length
  have hp := piled_le_tupleText ts
  obtain ⟨g, hg, ok⟩ := ra.gd
  refine wpAny_pyReprUnder_ref (by omega) (wpAny_pyReprObjUnder_twin (twin := "tuple.__repr__.under") ⟨o, ho, hc⟩ F.slot_tuple_repr rfl ra.rm.units0 ?_)
  refine call_twin_own (F.quiet_tuple_repr_under _) F.entry_tuple_repr_under F.check_tuple_repr_under ⟨o, ho, hc⟩ F.slot_tuple_repr (F.args_tuple_repr_1 _) ?_
  rw [tuple_repr_tree, tupleReprUnderWay_eq]
  refine wpOwn_bind (wpOwn_stackTailAny hg (tupGuardF_off _) (tupGuardF_pos _) ?_)
  have off : (g.any fun c => tupGuardF (.ref a) (c, default)) = false := by
    rw [List.any_eq_false]
    intro c hcm
    rw [tupGuardF_of_clear (ok.clear ng) c hcm]
    exact Bool.false_ne_true
  rw [off]
  refine wpOwn_of_wpAny ?_
  show wpAny _ _ (tupleReprRest base (.ref a)) _ _ s
  unfold tupleReprRest Builtin.Tuple.tupleItemsOf
  refine wpAny_bind (wpAny_bind (wpAny_seqItems ho hd (wpAny_pure ?_)))
  rw [← Array.forIn_toList]
  refine wpAny_bind (tup_fold ra.tup xs _ ts _ _ H s _ hT (by simpa using rv) (by omega) I sm fun H2 s2 I2 sm2 => ?_)
  have e1 : its.toArray.size = ts.length := by simp; omega
  refine wpAny_bind (wpAny_mkStr (wpAny_pure ?_) ?_)
  · have q2 := q H2 _ (I2.tok (s2.toks + 1)) sm2
    have e2 : (("(" : Str) ++ Str.join ", " (#[] ++ ts.toArray).toList ++ (if its.toArray.size == 1 then ",)" else ")" : String)) = tupleText ts := by
      unfold tupleText
      rw [e1]
      simp
    show callEnd _ E (.ok (.ret (.str _ _))) _
    rw [e2]
    exact ⟨⟨_, _, rfl⟩, _, _, rfl, q2⟩
  · have e2 : (("(" : Str) ++ Str.join ", " (#[] ++ ts.toArray).toList ++ (if its.toArray.size == 1 then ",)" else ")" : String)) = tupleText ts := by
      unfold tupleText
      rw [e1]
      simp
    rw [e2]
    omega

/-! ### an instance -/
theorem own_bound {K : PySem.W.Frag} {M : Model} {A : Around} {E : Value → Shared → Prop} {s : Shared} {x C f : Addr} {ox : Obj} {od : Option Obj} {b : Nat} {Q : Value → Shared → Prop} (hu : A.units < cLine) (KX : K.In s.heap) (J : PySem.W.InstAt s.heap x ox C od)
    (hs : PySem.W.findIn K (.ref C) "__repr__" = some (some (.ref f))) (hf : PySem.W.isFn K (.ref f) = true) (h : wpAny M A (call (.ref f) [.ref x]) (fun v s' => (∃ y u, v = .str y u) ∧ Q v s') E s) : wpAny M A (pyReprObjUnder b (.ref x)) Q E s := by
  unfold pyReprObjUnder pyReprObjBy
  refine wpAny_bind (wpAny_cRoomFor hu ?_)
  refine wpAny_bind (wpAny_bind (J.type.here ((PySem.W.looks_findIn KX hs).here ?_)))
  have done : ∀ v s', (∃ y u, v = Value.str y u) ∧ Q v s' → wpAny M A (do
      if (← isInstance v (.type "str")) = true then pure v else raiseErrorMade "TypeError" (toString "__repr__ returned non-string (type " ++ toString (← typeNameOf v) ++ toString ")")) Q E s' := by
    rintro v s' ⟨⟨y, u, rfl⟩, q⟩
    exact wpAny_bind (wpAny_isInstance (T := "str") (b := true) rfl isSubtype_str_str (wpAny_pure q))
  rw [if_neg (show ¬ ((some (Value.ref f)).isNone = true) from Bool.false_ne_true)]
  simp only [callSpecialIfBoundBy?, bindSpecialIfBound?]
  refine wpAny_bind (wpAny_holding (wpAny_bind (wpAny_bind (wpAny_bind (J.type.here ((PySem.W.looks_findIn KX hs).here ?_))))))
  refine wpAny_bind (wpAny_askSetting (wpAny_ite ?_))
  split
  · refine wpAny_bind ((PySem.W.bind_fn KX _ (beq_iff_eq.mp hf)).here (wpAny_pure (wpAny_bind (wpAny_mono h (fun v s' hv => wpAny_pure (done v s' hv)) fun _ _ z => z))))
  · refine wpAny_tryCatch (wpAny_bind ((PySem.W.bind_fn KX _ (beq_iff_eq.mp hf)).here (wpAny_pure (wpAny_bind (wpAny_mono h (fun v s' hv => wpAny_pure (done v s' hv)) fun _ _ z => z)))))
theorem RH.own {a C dx f : Addr} {fs : List (Str × V)} {fd : FuncData} {k : Nat} {sp : Sp} {t : Str} (ha0 : H0 a = some (.ins C dx fs)) (M : Meth X.K C "__repr__" f) (F : FnOk X.prog X.w X.K X.mg X.base CX0 k f fd ["self"] sp)
    (hb : Binds X.K fd ["self"] []) (hsp : ∀ (H : Hp) (Q : VK), Same H0 H → (∀ H', Same H H' → Q (.str t) H') → sp [.ref a] H Q E0) : RH X k G H0 (.ref a) t := by
  intro base hz A pins σ H s u E Q ra I sm r q
  obtain rfl : u = Value.ref a := r
  have ha := sm a _ ha0
  obtain ⟨mA, O, _⟩ := ins_get I.hok ha
  obtain ⟨od, J, _⟩ := O.look
  refine wpAny_pyReprUnder_ref (by omega) (own_bound ra.rm.units0 I.kIn J M.at_ M.fn ?_)
  have e0 : Env0 X.prog X.w X.K X.mg X.base A X.stack s H := ⟨ra.fr, I.env0.mod, I.env0.bs, I.env0.bsz, I.env0.funs, I.env0.frf, I.env0.hok, I.env0.bare⟩
  have bnd : BindsTo s fd ⟨[Value.ref a], []⟩ (([("self" : Str)] : List Str).zip [Value.ref a]) := by
    have z := hb s [.ref a] I.kIn rfl
    rwa [List.append_nil] at z
  refine wpAny_call (codeAny_mono (F.run A X.stack s H ⟨[.ref a], []⟩ [.ref a] [.ref a] (fun v H' => v = .str t ∧ Same H H') E0 ra.rm e0 bnd (.cons rfl .nil) (hsp H _ sm fun H' s' => ⟨rfl, s'⟩)) fun r s2 hq => ?_)
  match r, hq with
  | .ok (.ret v), hq =>
    obtain ⟨x, H2, I2, rx, ex, sm2⟩ := I.after hq
    subst ex
    obtain ⟨tk, rfl⟩ := rx
    exact ⟨⟨t, tk, rfl⟩, t, tk, rfl, q H2 s2 I2 sm2⟩

/-! ### repr(xs) -/
/-- repr of a list: its text, where no repr is under way -/
def rRepr (X : Cx) (n : Nat) : List V → Hp → VK → Prop := fun vs H Q => ∃ (a : Addr) (xs : List V) (ts : List Str), vs = [.ref a] ∧ H a = some (.lst xs) ∧ Paired (fun x t => RH X n (fun c => c = a) H x t) xs ts ∧ (listText ts).length ≤ sizeLine ∧
  ∀ H', Same H H' → Q (.str (listText ts)) H'
theorem cr_repr {n : Nat} (gd : X.A.guards = some []) (hr : Room (n + 2) X.A) : CallR X (.builtin "repr") (rRepr X n) := by
  intro pins s σ H vs us Q I r h
  obtain ⟨a, xs, ts, rfl, ha, hT, hz, q⟩ := h
  obtain ⟨u, rfl, ru⟩ := vals1 r
  obtain rfl : u = Value.ref a := ru
  obtain ⟨z, its, m, rv, ga⟩ := I.hok a _ ha
  have hu := hr.units
  have ra : RA X (n + 1) (fun _ => False) X.A.in1 := ⟨I.ok.frames, hr.in1, [], gd, .nil _⟩
  have hT2 : Paired (fun x t => RH X n (fun c => False ∨ c = a) H x t) xs ts := Paired.mapP hT fun x t y => y.guard fun c hc => hc.elim False.elim id
  refine call_repr_slot (by omega) ⟨_, ga, rfl⟩ F.slot_list_repr.toG ?_
  refine wpAny_call (codeAny_call_builtin F.slot_list_repr.plain F.entry_list_repr (F.slot_list_repr.check _ _ _ _ _ _ _ _ ⟨_, ga, rfl⟩ (F.args_list_repr_1 _) ?_))
  exact list_at (R := callEnd _ _) (base := 0) ha (fun z => z) ra hT2 (by omega) I (Same.refl H) fun H2 s2 u2 I2 sm2 => ⟨_, _, rfl, .str (listText ts), H2, I2, ⟨u2, rfl⟩, q H2 sm2⟩
end
end LT
/-! Words of this proof: a def ready to be called, the module's facts, heaps that keep what they had. -/
namespace LT
open PySem PySem.Spec PyProof.Rows L2
/-! ### heaps -/
/-- all that was tracked is as it was, but what B says -/
def Kp (B : Addr → Prop) (H H' : Hp) : Prop := ∀ b o, H b = some o → ¬ B b → H' b = some o
theorem Kp.trans {B : Addr → Prop} {H H1 H2 : Hp} (a : Kp B H H1) (b : Kp B H1 H2) : Kp B H H2 := fun c o h n => b c o (a c o h n) n
theorem Kp.mono {B B' : Addr → Prop} {H H' : Hp} (a : Kp B H H') (i : ∀ b, B b → B' b) : Kp B' H H' := fun c o h n => a c o h fun z => n (i c z)
theorem Same.kp {B : Addr → Prop} {H H' : Hp} (a : Same H H') : Kp B H H' := fun c o h _ => a c o h
theorem same_upd {H : Hp} {p : Addr} {o : HO} (h : H p = none) : Same H (upd H p o) := fun b q e => by
  rw [upd_ne (ne_of_none e h)]; exact e
theorem Same.upd {H H' : Hp} {p : Addr} {o : HO} (s : Same H H') (h : H' p = none) : Same H (upd H' p o) := s.trans (same_upd h)
theorem kp_upd {B : Addr → Prop} {H : Hp} {p : Addr} {o : HO} (h : B p) : Kp B H (upd H p o) := fun b q e n => by
  rw [upd_ne (fun z => n (by rw [z]; exact h))]; exact e
theorem Kp.upd {B : Addr → Prop} {H H' : Hp} {p : Addr} {o : HO} (k : Kp B H H') (h : B p) : Kp B H (upd H' p o) := k.trans (kp_upd h)
theorem Kp.updN {B : Addr → Prop} {H H' : Hp} {p : Addr} {o : HO} (k : Kp B H H') (h : H p = none) : Kp B H (L2.upd H' p o) := fun b q e n => by
  rw [upd_ne (ne_of_none e h)]; exact k b q e n
/-- a new address in a heap that grew was new before -/
theorem Kp.free {B : Addr → Prop} {H H' : Hp} (k : Kp B H H') {p : Addr} (h : H' p = none) (n : ¬ B p) : H p = none := by
  cases e : H p with
  | none => rfl
  | some o => rw [k p o e n] at h; cases h
/-! ### a def ready to be called -/
structure Use (P : Program) (w : World) (K : PySem.W.Frag) (mg : Str → Option Value) (base : Heap) (k : Nat) (x : Str) (ps : List Str) (dvs : List V) (sp : Sp) : Prop where
  ex : ∃ (f : Addr) (fd : FuncData) (ds : List Value), FnOk P w K mg base CX0 k f fd ps sp ∧ mg x = some (.ref f) ∧ PySem.W.keepIn K (.ref f) = true ∧ Binds K fd ps ds ∧ Vals dvs ds
structure UseM (P : Program) (w : World) (K : PySem.W.Frag) (mg : Str → Option Value) (base : Heap) (k : Nat) (C : Addr) (m : Str) (ps : List Str) (dvs : List V) (sp : Sp) : Prop where
  ex : ∃ (f : Addr) (fd : FuncData) (ds : List Value), FnOk P w K mg base CX0 k f fd ps sp ∧ Meth K C m f ∧ Binds K fd ps ds ∧ Vals dvs ds
structure UseC (P : Program) (w : World) (K : PySem.W.Frag) (mg : Str → Option Value) (base : Heap) (k : Nat) (x : Str) (C : Addr) (ps : List Str) (dvs : List V) (sp : Sp) : Prop where
  ex : ∃ (f : Addr) (fd : FuncData) (ds : List Value), FnOk P w K mg base CX0 k f fd ps sp ∧ Mk K C f ∧ mg x = some (.ref C) ∧ Binds K fd ps ds ∧ Vals dvs ds
section
variable {X : Cx} {k : Nat} {C : Addr} {ps : List Str} {sp : Sp} {dvs : List V} {x m : Str} {p pos apos : Pos} {e o : Expr} {es : List Expr} {ta : TE} {t : TA}
theorem pe_use (U : Use X.prog X.w X.K X.mg X.base k x ps dvs sp) (hr : Room k X.A) (hg : Gl X x) (ha : PA X (e :: es) t) (hdb : (x == ("__debug__" : Str)) = false := by decide)
    (he : starEach (e :: es) X.env = (false, eval e X.env) :: starEach es X.env := by rfl) (hpl : (backTo pos (starEach es X.env)).any (·.1) = false := by rfl) : PE X (.Call (.Name x p) (e :: es) [] pos) (tCall sp dvs E0 t) := by
  obtain ⟨f, fd, ds, F, hm, hk, hb, hd⟩ := U.ex
  exact pe_call F hr hg hm hk hb hd pass0 ha hdb he hpl
theorem pe_useM {pl : Sem Bool} (he : PE X o ta) (c : Cls X.K C) (U : UseM X.prog X.w X.K X.mg X.base k C m ps dvs sp) (hr : Room k X.A) (ha : PA X (e :: es) t)
    (hst : starEach (e :: es) X.env = (false, eval e X.env) :: starEach es X.env := by rfl) (hpl : (backTo pos (starEach es X.env)).any (·.1) = false := by rfl)
    (ht : eval (.Call (.Attribute o m apos) (e :: es) [] pos) X.env = (do
      let ov ← eval o X.env
      standAt apos.atName
      let (f, first) ← holding [ov] (getMethod ov m pl)
      callWith pos f first (backTo pos (starEach (e :: es) X.env)) (backToKw pos (keywordEach [] X.env))) := by rfl) : PE X (.Call (.Attribute o m apos) (e :: es) [] pos) (tMeth C m sp dvs E0 ta t) := by
  obtain ⟨f, fd, ds, F, hm, hb, hd⟩ := U.ex
  exact pe_meth he c hm F hr hb hd pass0 ha hst hpl ht
theorem pe_useM0 {pl : Sem Bool} (he : PE X o ta) (c : Cls X.K C) (U : UseM X.prog X.w X.K X.mg X.base k C m ps dvs sp) (hr : Room k X.A)
    (ht : eval (.Call (.Attribute o m apos) [] [] pos) X.env = (do
      let ov ← eval o X.env
      standAt apos.atName
      let (f, first) ← holding [ov] (getMethod ov m pl)
      callWith pos f first (backTo pos (starEach [] X.env)) (backToKw pos (keywordEach [] X.env))) := by rfl) : PE X (.Call (.Attribute o m apos) [] [] pos) (tMeth C m sp dvs E0 ta tNil) := by
  obtain ⟨f, fd, ds, F, hm, hb, hd⟩ := U.ex
  exact pe_meth0 he c hm F hr hb hd pass0 ht
theorem pe_useC (U : UseC X.prog X.w X.K X.mg X.base k x C ps dvs sp) (hr : Room (k + 1) X.A) (hg : Gl X x) (ha : PA X (e :: es) t) (hdb : (x == ("__debug__" : Str)) = false := by decide)
    (he : starEach (e :: es) X.env = (false, eval e X.env) :: starEach es X.env := by rfl) (hpl : (backTo pos (starEach es X.env)).any (·.1) = false := by rfl) : PE X (.Call (.Name x p) (e :: es) [] pos) (tMake C sp dvs E0 t) := by
  obtain ⟨f, fd, ds, F, M, hm, hb, hd⟩ := U.ex
  exact pe_make M F hr hg hm hb hd pass0 ha hdb he hpl
end
/-! ### what the top leaves -/
abbrev cB (K : PySem.W.Frag) : Addr := He.ga K "Book"
abbrev cS (K : PySem.W.Frag) : Addr := He.ga K "Stretch"
structure Tx (K : PySem.W.Frag) (mg : Str → Option Value) : Prop where
  isinstance : mg "isinstance" = none
  len : mg "len" = none
  all : mg "all" = none
  dict : mg "dict" = none
  sorted : mg "sorted" = none
  sum : mg "sum" = none
  enumerate : mg "enumerate" = none
  max : mg "max" = none
  min : mg "min" = none
  abs : mg "abs" = none
  divmod : mg "divmod" = none
  range : mg "range" = none
  repr : mg "repr" = none
  str : mg "str" = none
  int : mg "int" = none
  bool : mg "bool" = none
  LETTERS : ∃ t, mg "LETTERS" = some (.str "abcdefghijklmnopqrstuvwxyz" t)
  ASHORE : ∃ t, mg "ASHORE" = some (.str "" t)
  MOST : ∃ t, mg "MOST_LETTERS" = some (.int 8 t)
  LOW : ∃ t, mg "LOWEST_RANK" = some (.int 9 t)
  KEEP : ∃ t, mg "MOST_KEEPERS" = some (.int 30 t)
  clB : Cls K (cB K)
  nRanks : NoAttr K (cB K) "own_ranks"
  nMoves : NoAttr K (cB K) "moves_told"
  nLands : NoAttr K (cB K) "landings_told"
  nLast : NoAttr K (cB K) "told_last"
  clS : Cls K (cS K)
  nBegin : NoAttr K (cS K) "begin"
  nEnd : NoAttr K (cS K) "end"
section
variable {X : Cx}
/-- a module's text, a module's number -/
theorem pe_gS {x z : Str} {pos : Pos} (h : ∃ t, X.mg x = some (.str z t)) (hg : Gl X x) (hd : (x == ("__debug__" : Str)) = false := by decide) : PE X (.Name x pos) (tC (.str z)) := by
  obtain ⟨t, ht⟩ := h
  exact pe_glob hg ht ⟨t, rfl⟩ hd
theorem pe_gI {x : Str} {z : Int} {pos : Pos} (h : ∃ t, X.mg x = some (.int z t)) (hg : Gl X x) (hd : (x == ("__debug__" : Str)) = false := by decide) : PE X (.Name x pos) (tC (.int z)) := by
  obtain ⟨t, ht⟩ := h
  exact pe_glob hg ht ⟨t, rfl⟩ hd
end
/-- a name: one to eight small letters -/
def IsNm (z : Str) : Prop := 1 ≤ z.length ∧ z.length ≤ 8 ∧ ∀ c ∈ z.cps.toList, 97 ≤ c ∧ c ≤ 122
/-- a place: a name, or no signs -/
def IsPl (z : Str) : Prop := z = "" ∨ IsNm z
end LT
/-! What the program computes, as plain functions, and what stays of it. -/
namespace LT
open PySem PySem.Spec PyProof.Rows L2
/-! ### what was told -/
section
variable {α : Type}
/-- one row: the known day, what was told (none: nothing holds) -/
abbrev Row (α : Type) := Int × Option α
/-- by name and day the rows -/
abbrev Tb (α : Type) := List ((Str × Int) × List (Row α))
def upTo (k : Option Int) (t : Int) : Bool := match k with
  | none => true
  | some k => decide (t ≤ k)
def lastTold (k : Option Int) (rows : List (Row α)) : Option α := rows.foldl (fun acc r => if upTo k r.1 = true then r.2 else acc) none
theorem lastTold_snoc (k : Option Int) (l : List (Row α)) (r : Row α) : lastTold k (l ++ [r]) = if upTo k r.1 = true then r.2 else lastTold k l := by
  unfold lastTold
  rw [List.foldl_append]
  rfl
def isLast (rows : List (Row α)) (e : Int) : Bool := match rows.getLast? with
  | some r => decide (r.1 = e)
  | none => false
def putDown (rows : List (Row α)) (e : Int) (w : Option α) : List (Row α) := (if isLast rows e = true then rows.dropLast else rows) ++ [(e, w)]
theorem lastTold_putDown {k : Option Int} {e : Int} (h : upTo k e = false) (rows : List (Row α)) (w : Option α) : lastTold k (putDown rows e w) = lastTold k rows := by
  unfold putDown
  rw [lastTold_snoc, if_neg (by rw [h]; exact Bool.false_ne_true)]
  by_cases hl : isLast rows e = true
  · rw [if_pos hl]
    unfold isLast at hl
    cases hr : rows.getLast? with
    | none => rw [hr] at hl; cases hl
    | some r =>
      rw [hr] at hl
      have er : r.1 = e := of_decide_eq_true hl
      have es : rows = rows.dropLast ++ [r] := by
        have hne : rows ≠ [] := fun z => by rw [z] at hr; cases hr
        rw [List.getLast?_eq_some_getLast hne] at hr
        rw [← Option.some.inj hr]
        exact (List.dropLast_concat_getLast hne).symm
      conv => rhs; rw [es]
      rw [lastTold_snoc, er, if_neg (by rw [h]; exact Bool.false_ne_true)]
  · rw [if_neg hl]
theorem mem_putDown {rows : List (Row α)} {e : Int} {w : Option α} {r : Row α} (h : r ∈ putDown rows e w) : r ∈ rows ∨ r = (e, w) := by
  unfold putDown at h
  rcases List.mem_append.mp h with h | h
  · left
    split at h
    · exact List.dropLast_subset _ h
    · exact h
  · right
    exact List.mem_singleton.mp h
/-- told of a name and a day -/
def tellT : Tb α → (Str × Int) → Int → Option α → Tb α
  | [], key, e, w => [(key, [(e, w)])]
  | (k, rows) :: m, key, e, w => if k = key then (k, putDown rows e w) :: m else (k, rows) :: tellT m key e w
/-- the moves (landings) of a name that hold, as known: in the dict's order -/
def heldU (k : Option Int) (n : Str) (m : Tb α) : List (Int × α) := m.filterMap fun e => if e.1.1 = n then (lastTold k e.2).map fun w => (e.1.2, w) else none
theorem heldU_tell {k : Option Int} {e : Int} (h : upTo k e = false) (n : Str) (key : Str × Int) (w : Option α) : ∀ m : Tb α, heldU k n (tellT m key e w) = heldU k n m
  | [] => by
    unfold tellT heldU
    have e1 : lastTold k [(e, w)] = (none : Option α) := by
      have q := lastTold_snoc k ([] : List (Row α)) (e, w)
      rw [if_neg (by rw [h]; exact Bool.false_ne_true)] at q
      exact q
    simp [e1]
  | (k', rows) :: m => by
    unfold tellT
    by_cases hk : k' = key
    · rw [if_pos hk]
      unfold heldU
      rw [List.filterMap_cons, List.filterMap_cons, lastTold_putDown h]
    · rw [if_neg hk]
      have ih := heldU_tell h n key w m
      unfold heldU at ih ⊢
      rw [List.filterMap_cons, List.filterMap_cons, ih]
/-- all was told on known days up to K -/
def Told (K : Int) (m : Tb α) : Prop := ∀ e ∈ m, ∀ r ∈ e.2, r.1 ≤ K
theorem Told.tell {K e : Int} {key : Str × Int} {w : Option α} : ∀ {m : Tb α}, Told K m → K ≤ e → Told e (tellT m key e w)
  | [], _, _ => by
    intro x hx r hr
    unfold tellT at hx
    rw [List.mem_singleton.mp hx] at hr
    rw [List.mem_singleton.mp hr]
    exact Int.le_refl _
  | (k', rows) :: m, h, hk => by
    have hm : Told K m := fun x hx => h x (List.mem_cons_of_mem _ hx)
    unfold tellT
    intro x hx r hr
    split at hx
    · rcases List.mem_cons.mp hx with rfl | hx
      · rcases mem_putDown hr with q | q
        · exact Int.le_trans (h _ (List.mem_cons_self ..) r q) hk
        · rw [q]; exact Int.le_refl _
      · exact Int.le_trans (hm x hx r hr) hk
    · rcases List.mem_cons.mp hx with rfl | hx
      · exact Int.le_trans (h _ (List.mem_cons_self ..) r hr) hk
      · exact Told.tell hm hk x hx r hr
theorem lastTold_all {K : Int} {rows : List (Row α)} (h : ∀ r ∈ rows, r.1 ≤ K) (k : Option Int) (hk : upTo k K = true) : lastTold k rows = lastTold none rows := by
  have up : ∀ r ∈ rows, upTo k r.1 = true := fun r hr => by
    cases k with
    | none => rfl
    | some k =>
      have q : K ≤ k := of_decide_eq_true hk
      exact decide_eq_true (Int.le_trans (h r hr) q)
  have go : ∀ (l : List (Row α)) (acc : Option α), (∀ r ∈ l, upTo k r.1 = true) → l.foldl (fun acc r => if upTo k r.1 = true then r.2 else acc) acc = l.foldl (fun acc r => if upTo none r.1 = true then r.2 else acc) acc := by
    intro l
    induction l with
    | nil => intro _ _; rfl
    | cons r l ih =>
      intro acc hl
      rw [List.foldl_cons, List.foldl_cons, if_pos (hl r (List.mem_cons_self ..)), if_pos (show upTo none r.1 = true from rfl)]
      exact ih _ fun q hq => hl q (List.mem_cons_of_mem _ hq)
  exact go rows none up
theorem heldU_all {K : Int} {m : Tb α} (h : Told K m) (k : Option Int) (hk : upTo k K = true) (n : Str) : heldU k n m = heldU none n m := by
  unfold heldU
  have go : ∀ l : Tb α, (∀ e ∈ l, e ∈ m) → l.filterMap (fun e => if e.1.1 = n then (lastTold k e.2).map fun w => (e.1.2, w) else none) = l.filterMap fun e => if e.1.1 = n then (lastTold none e.2).map fun w => (e.1.2, w) else none := by
    intro l
    induction l with
    | nil => intro _; rfl
    | cons e l ih =>
      intro hl
      rw [List.filterMap_cons, List.filterMap_cons, lastTold_all (h e (hl e (List.mem_cons_self ..))) k hk, ih fun x hx => hl x (List.mem_cons_of_mem _ hx)]
  exact go m fun _ h => h
/-- keys stay apart -/
theorem tellT_keys {key : Str × Int} {e : Int} {w : Option α} : ∀ m : Tb α, (tellT m key e w).map (·.1) = if key ∈ m.map (·.1) then m.map (·.1) else m.map (·.1) ++ [key]
  | [] => by simp [tellT]
  | (k', rows) :: m => by
    unfold tellT
    by_cases hk : k' = key
    · subst hk
      simp
    · rw [if_neg hk, List.map_cons, tellT_keys m, List.map_cons]
      have hk2 : ¬ key = k' := fun z => hk z.symm
      by_cases hm : key ∈ m.map (·.1)
      · rw [if_pos hm, if_pos (List.mem_cons_of_mem _ hm)]
      · rw [if_neg hm, if_neg (by
          intro z
          rcases List.mem_cons.mp z with z | z
          · exact hk2 z
          · exact hm z)]
        rfl
theorem tellT_nodup {m : Tb α} {key : Str × Int} {e : Int} {w : Option α} (h : (m.map (·.1)).Nodup) : ((tellT m key e w).map (·.1)).Nodup := by
  rw [tellT_keys]
  split
  · exact h
  · rename_i hn
    rw [List.nodup_append]
    refine ⟨h, List.nodup_cons.mpr ⟨List.not_mem_nil, List.nodup_nil⟩, fun a ha b hb => ?_⟩
    rw [List.mem_singleton.mp hb]
    exact fun z => hn (z ▸ ha)
theorem tellT_len {key : Str × Int} {e : Int} {w : Option α} (m : Tb α) : (tellT m key e w).length ≤ m.length + 1 := by
  have q := congrArg List.length (tellT_keys (key := key) (e := e) (w := w) m)
  rw [List.length_map] at q
  rw [q]
  split
  · rw [List.length_map]; omega
  · rw [List.length_append, List.length_map]; exact Nat.le_refl _
theorem mem_heldU {k : Option Int} {n : Str} {m : Tb α} {p : Int × α} (h : p ∈ heldU k n m) : ∃ e ∈ m, e.1 = (n, p.1) ∧ lastTold k e.2 = some p.2 := by
  obtain ⟨e, he, q⟩ := List.mem_filterMap.mp h
  split at q
  · rename_i hn
    cases hl : lastTold k e.2 with
    | none => rw [hl] at q; cases q
    | some w =>
      rw [hl] at q
      cases q
      exact ⟨e, he, by rw [← hn], hl⟩
  · cases q
theorem heldU_days {k : Option Int} {n : Str} : ∀ {m : Tb α}, (m.map (·.1)).Nodup → ((heldU k n m).map (·.1)).Nodup
  | [], _ => List.nodup_nil
  | e :: m, h => by
    rw [List.map_cons, List.nodup_cons] at h
    have ih := heldU_days (k := k) (n := n) h.2
    show ((List.filterMap _ (e :: m)).map _).Nodup
    rw [List.filterMap_cons]
    split
    · exact ih
    · rename_i p hp
      rw [List.map_cons, List.nodup_cons]
      refine ⟨fun hm => ?_, ih⟩
      obtain ⟨q, hq, eq⟩ := List.mem_map.mp hm
      obtain ⟨e', he', k1, _⟩ := mem_heldU hq
      refine h.1 (List.mem_map.mpr ⟨e', he', ?_⟩)
      split at hp
      · rename_i hn
        cases hl : lastTold k e.2 with
        | none => rw [hl] at hp; cases hp
        | some w =>
          rw [hl] at hp
          cases hp
          rw [k1, eq, ← hn]
      · cases hp
theorem lastTold_mem {k : Option Int} {rows : List (Row α)} {w : α} (h : lastTold k rows = some w) : ∃ r ∈ rows, r.2 = some w := by
  have go : ∀ (l : List (Row α)) (acc : Option α), l.foldl (fun acc r => if upTo k r.1 = true then r.2 else acc) acc = some w → acc = some w ∨ ∃ r ∈ l, r.2 = some w := by
    intro l
    induction l with
    | nil => intro acc h; exact .inl h
    | cons r l ih =>
      intro acc h
      rcases ih _ h with q | ⟨r', h1, h2⟩
      · dsimp only at q
        by_cases hu : upTo k r.1 = true
        · rw [if_pos hu] at q
          exact .inr ⟨r, List.mem_cons_self .., q⟩
        · rw [if_neg hu] at q
          exact .inl q
      · exact .inr ⟨r', List.mem_cons_of_mem _ h1, h2⟩
  rcases go rows none h with q | q
  · cases q
  · exact q
end
end LT
namespace LT
open PySem PySem.Spec PyProof.Rows L2
section
variable {P : Program} {w : World} {K : PySem.W.Frag} {mg : Str → Option Value} {base : Heap} {f : Addr} {fd : FuncData}
theorem qT {c : Prop} [Decidable c] (hc : c) {Q : VK} {H : Hp} (q : Q (.bl true) H) : Q (.bl (decide c)) H := by rw [decide_eq_true hc]; exact q
theorem qF {c : Prop} [Decidable c] (hc : ¬ c) {Q : VK} {H : Hp} (q : Q (.bl false) H) : Q (.bl (decide c)) H := by rw [decide_eq_false hc]; exact q
theorem ifT {c A B : Prop} [Decidable c] (hc : c) (h : A) : if decide c = true then A else B := by rw [decide_eq_true hc]; exact iteT h
theorem ifF {c A B : Prop} [Decidable c] (hc : ¬ c) (h : B) : if decide c = true then A else B := by rw [decide_eq_false hc]; exact iteF h
/-! ### is_whole -/
def spIsWhole : Sp := fun vs H Q _ => ∃ i l : Int, vs = [.int i, .int l] ∧ l ≤ i ∧ Q (.bl true) H
theorem scIsWhole : FnScope ["thing", "least"] ["thing", "least"] (defScope sIsWhole) := ⟨rfl, rfl, rfl, by decide +kernel, rfl, by decide +kernel, by decide +kernel⟩
theorem okIsWhole {dvs : List V} (F : FnP K "is_whole" "is_whole" sIsWhole dvs f fd) (T : Tx K mg) : FnOk P w K mg base CX0 1 f fd ["thing", "least"] spIsWhole := by
  refine F.ok scIsWhole (fun vs H Q E h => ?_) (fun cdv A outer s H vs Q E hr h => ?_)
  · obtain ⟨i, l, rfl, _⟩ := h; rfl
  · obtain ⟨i, l, rfl, hl, q⟩ := h
    refine ⟨_, PSs.nox (pss_one (ps_ret (pe_and (pe_callB call_isi (by rfl) T.isinstance (by decide +kernel) (pa_cons (pv 0) (pa_cons (pe_bltn (v := .ty "int") (by rfl) T.int (by decide +kernel) rfl) pa_nil)))
      (pe_and (pe_not (pe_callB call_isi (by rfl) T.isinstance (by decide +kernel) (pa_cons (pv 0) (pa_cons (pe_bltn (v := .ty "bool") (by rfl) T.bool (by decide +kernel) rfl) pa_nil))))
        (pe_one (pe_cmpR op_ge (pv 0) (pv 1) (nomark _))))))), ?_⟩
    refine ⟨_, rfl, .int i, .ty "int", .type "int", _, true, rfl, .ty "int", .base (.int i), kit_ty (by decide +kernel), _, rfl, ?_⟩
    refine iteT ?_
    refine ⟨_, rfl, .int i, .ty "bool", .type "int", _, false, rfl, .ty "bool", .base (.int i), kit_ty (by decide +kernel), _, rfl, _, rfl, ?_⟩
    refine iteT ?_
    refine ⟨_, rfl, _, rfl, i, l, rfl, rfl, ?_⟩
    exact qT hl q
/-! ### is_rank -/
def spIsRank : Sp := fun vs H Q _ => ∃ i : Int, vs = [.int i] ∧ 1 ≤ i ∧ i ≤ 9 ∧ Q (.bl true) H
theorem scIsRank : FnScope ["thing"] ["thing"] (defScope sIsRank) := ⟨rfl, rfl, rfl, by decide +kernel, rfl, by decide +kernel, by decide +kernel⟩
theorem okIsRank (F : FnP K "is_rank" "is_rank" sIsRank [] f fd) (T : Tx K mg) (U : Use P w K mg base 1 "is_whole" ["thing", "least"] [] spIsWhole) : FnOk P w K mg base CX0 2 f fd ["thing"] spIsRank := by
  refine F.ok scIsRank (fun vs H Q E h => ?_) (fun cdv A outer s H vs Q E hr h => ?_)
  · obtain ⟨i, rfl, _⟩ := h; rfl
  · obtain ⟨i, rfl, h1, h9, q⟩ := h
    refine ⟨_, PSs.nox (pss_one (ps_ret (pe_and (pe_use U hr (by rfl) (pa_cons (pv 0) (pa_cons pe_int pa_nil))) (pe_one (pe_cmpR op_le (pv 0) (pe_gI T.LOW (by rfl)) (nomark _)))))), ?_⟩
    refine ⟨_, rfl, i, 1, rfl, h1, _, rfl, ?_⟩
    refine iteT ?_
    refine ⟨_, rfl, i, 9, rfl, rfl, ?_⟩
    exact qT h9 q
/-! ### is_name -/
def spIsName : Sp := fun vs H Q _ => ∃ z : Str, vs = [.str z] ∧ IsNm z ∧ ∀ H', Same H H' → Q (.bl true) H'
theorem scIsName : FnScope ["thing", "sign"] ["thing"] (defScope sIsName) := ⟨rfl, rfl, rfl, by decide +kernel, rfl, by decide +kernel, by decide +kernel⟩
theorem letters_mem {c : Nat} (h1 : 97 ≤ c) (h2 : c ≤ 122) : c ∈ ("abcdefghijklmnopqrstuvwxyz" : Str).cps.toList := by
  have all : ∀ k : Fin 26, (97 + k.val) ∈ ("abcdefghijklmnopqrstuvwxyz" : Str).cps.toList := by decide +kernel
  have q := all ⟨c - 97, by omega⟩
  have e : 97 + (c - 97) = c := by omega
  simpa only [e] using q
theorem sz63 {n : Nat} (h : n ≤ 64) : n < sizeLine := Nat.lt_of_le_of_lt h (by decide)
theorem okIsName (F : FnP K "is_name" "is_name" sIsName [] f fd) (T : Tx K mg) : FnOk P w K mg base CX0 1 f fd ["thing"] spIsName := by
  refine F.ok scIsName (fun vs H Q E h => ?_) (fun cdv A outer s H vs Q E hr h => ?_)
  · obtain ⟨z, rfl, _⟩ := h; rfl
  · obtain ⟨z, rfl, ⟨n1, n8, nl⟩, q⟩ := h
    refine ⟨_, PSs.nox (pss_cons (ps_if (PW.pt (pw_or (pt_not (pt_val (pe_callB call_isi (by rfl) T.isinstance (by decide +kernel) (pa_cons (pv 0) (pa_cons (pe_bltn (v := .ty "str") (by rfl) T.str (by decide +kernel) rfl) pa_nil)))))
        (pw_or1 (pt_not (pt_chain op_le op_le pe_int (pe_callB call_len_str (by rfl) T.len PySem.boot_len (pa_cons (pv 0) pa_nil)) (pe_gI T.MOST (by rfl)))))))
        (pss_one (ps_ret pe_bl)) pss_nil)
      (pss_one (ps_ret (pe_callB (cr_all rfl) (by rfl) T.all (by decide +kernel) (pa_cons (pe_lc (own := [("sign", 1)]) (g := gName 1) (tt := tYes) rfl scIsName.nd (pi_str (pv 0)) (blkOk_by (N := ["thing", "sign"]) (sc := defScope sIsName) (by decide +kernel))
        (fun _ _ _ _ _ => pg_name (i := 1) scIsName.nd rfl (Or.inl rfl)) (fun _ _ _ _ _ => pts_nil) (fun _ _ _ _ _ => pe_cmpR op_in_sign (pv 1) (pe_gS T.LETTERS (by rfl)) rfl)) pa_nil))))), ?_⟩
    refine ⟨_, rfl, .str z, .ty "str", .type "str", _, true, rfl, .ty "str", .base (.str z), kit_ty (by decide +kernel), true, rfl, ?_⟩
    refine iteF ?_
    refine ⟨_, rfl, z, rfl, Nat.le_of_lt (sz63 (by omega)), 1, (z.length : Int), rfl, rfl, _, rfl, ?_⟩
    refine ifT (by omega) ?_
    refine ⟨(z.length : Int), 8, rfl, rfl, _, rfl, ?_⟩
    refine iteNS (by omega) ?_
    refine ⟨_, rfl, z, rfl, fun D hD => lc_it walk_str (fun i H2 => Same H H2 ∧ H2 D = some (.lst ((List.replicate i true).map V.bl))) ⟨same_upd hD, upd_same⟩ (fun _ _ _ _ => trivial) ?_ ?_⟩
    · rintro i x H2 H3 hi ⟨sm, hl⟩ ⟨rfl, c, hc, rfl⟩
      refine ⟨rfl, ?_⟩
      refine ⟨_, rfl, c, _, rfl, rfl, _, hl, by rw [List.length_map, List.length_replicate]; exact sz63 (by show i ≤ 64; have : z.cps.size = z.length := rfl; omega), fun b o e => ?_, ?_⟩
      · rw [upd_ne (ne_of_none e hD)]; exact sm b o e
      · have hm : c ∈ z.cps.toList := Array.mem_toList_iff.mpr (Array.mem_of_getElem? hc)
        have q1 := nl c hm
        rw [upd_same, decide_eq_true (letters_mem q1.1 q1.2)]
        simp [List.replicate_succ']
    · rintro H2 ⟨sm, hl⟩
      refine ⟨D, List.replicate z.cps.size true, rfl, SqL.of hl, ?_⟩
      have e : (List.replicate z.cps.size true).all id = true := by simp
      rw [e]
      exact q H2 sm
/-! ### is_place -/
def spIsPlace : Sp := fun vs H Q _ => ∃ z : Str, vs = [.str z] ∧ IsPl z ∧ ∀ H', Same H H' → Q (.bl true) H'
theorem scIsPlace : FnScope ["thing"] ["thing"] (defScope sIsPlace) := ⟨rfl, rfl, rfl, by decide +kernel, rfl, by decide +kernel, by decide +kernel⟩
theorem okIsPlace (F : FnP K "is_place" "is_place" sIsPlace [] f fd) (T : Tx K mg) (U : Use P w K mg base 1 "is_name" ["thing"] [] spIsName) : FnOk P w K mg base CX0 2 f fd ["thing"] spIsPlace := by
  refine F.ok scIsPlace (fun vs H Q E h => ?_) (fun cdv A outer s H vs Q E hr h => ?_)
  · obtain ⟨z, rfl, _⟩ := h; rfl
  · obtain ⟨z, rfl, hz, q⟩ := h
    refine ⟨_, PSs.nox (pss_one (ps_ret (pe_or (pe_cmpR op_eq (pv 0) (pe_gS T.ASHORE (by rfl)) (nomark _)) (pe_one (pe_use U hr (by rfl) (pa_cons (pv 0) pa_nil)))))), ?_⟩
    refine ⟨_, rfl, rfl, _, rfl, ?_⟩
    refine ite2 (fun _ => q H (Same.refl H)) fun n => ?_
    refine ⟨_, rfl, z, rfl, hz.resolve_left fun e => n ?_, fun H2 sm => q H2 sm⟩
    rw [e]
    exact decide_eq_true rfl
/-! ### want_day, want_known, want_place -/
def spWantDay : Sp := fun vs H Q _ => ∃ i : Int, vs = [.int i] ∧ 0 ≤ i ∧ Q .non H
theorem scWantDay : FnScope ["thing"] ["thing"] (defScope sWantDay) := ⟨rfl, rfl, rfl, by decide +kernel, rfl, by decide +kernel, by decide +kernel⟩
theorem okWantDay (F : FnP K "want_day" "want_day" sWantDay [] f fd) (U : Use P w K mg base 1 "is_whole" ["thing", "least"] [.int 0] spIsWhole) : FnOk P w K mg base CX0 2 f fd ["thing"] spWantDay := by
  refine F.ok scWantDay (fun vs H Q E h => ?_) (fun cdv A outer s H vs Q E hr h => ?_)
  · obtain ⟨i, rfl, _⟩ := h; rfl
  · obtain ⟨i, rfl, h0, q⟩ := h
    refine ⟨_, PSs.nox (pss_one (ps_if (pt_not (pt_val (pe_use U hr (by rfl) (pa_cons (pv 0) pa_nil)))) (pss_one ps_never) pss_nil)), ?_⟩
    refine ⟨_, rfl, i, 0, rfl, h0, true, rfl, ?_⟩
    exact iteF q
/-- a known day, or None -/
def vK : Option Int → V
  | none => .non
  | some k => .int k
def KOk : Option Int → Prop
  | none => True
  | some k => 0 ≤ k
def spWantKnown : Sp := fun vs H Q _ => ∃ k : Option Int, vs = [vK k] ∧ KOk k ∧ Q .non H
theorem scWantKnown : FnScope ["thing"] ["thing"] (defScope sWantKnown) := ⟨rfl, rfl, rfl, by decide +kernel, rfl, by decide +kernel, by decide +kernel⟩
theorem okWantKnown (F : FnP K "want_known" "want_known" sWantKnown [] f fd) (U : Use P w K mg base 2 "want_day" ["thing"] [] spWantDay) : FnOk P w K mg base CX0 3 f fd ["thing"] spWantKnown := by
  refine F.ok scWantKnown (fun vs H Q E h => ?_) (fun cdv A outer s H vs Q E hr h => ?_)
  · obtain ⟨i, rfl, _⟩ := h; rfl
  · obtain ⟨k, rfl, h0, q⟩ := h
    refine ⟨_, PSs.nox (pss_one (ps_if (pt_cmpR op_notN (pv 0) pe_non (nomark _)) (pss_one (ps_expr (pe_use U hr (by rfl) (pa_cons (pv 0) pa_nil)))) pss_nil)), ?_⟩
    refine ⟨_, rfl, rfl, _, rfl, ?_⟩
    cases k with
    | none => exact iteF q
    | some k => exact iteT ⟨_, rfl, k, rfl, h0, q⟩
/-! ### want_ranks -/
/-- keepers with ranks, as a dict has them -/
def RkOk (R : List (Str × Int)) : Prop := R.length ≤ 30 ∧ ∀ e ∈ R, IsNm e.1 ∧ 1 ≤ e.2 ∧ e.2 ≤ 9
def kvR (R : List (Str × Int)) : List (L2.Key × V) := R.map fun e => (.inr e.1, .int e.2)
def spWantRanks : Sp := fun vs H Q _ => ∃ (d : Addr) (R : List (Str × Int)), vs = [.ref d] ∧ H d = some (.dK (kvR R)) ∧ RkOk R ∧ ∀ H', Same H H' → Q .non H'
theorem scWantRanks : FnScope ["thing", "name", "rank"] ["thing"] (defScope sWantRanks) := ⟨rfl, rfl, rfl, by decide +kernel, rfl, by decide +kernel, by decide +kernel⟩
theorem okWantRanks (F : FnP K "want_ranks" "want_ranks" sWantRanks [] f fd) (T : Tx K mg) (U : Use P w K mg base 1 "is_name" ["thing"] [] spIsName) (V2 : Use P w K mg base 2 "is_rank" ["thing"] [] spIsRank) : FnOk P w K mg base CX0 3 f fd ["thing"] spWantRanks := by
  refine F.ok scWantRanks (fun vs H Q E h => ?_) (fun cdv A outer s H vs Q E hr h => ?_)
  · obtain ⟨d, R, rfl, _⟩ := h; rfl
  · obtain ⟨d, R, rfl, hd, ⟨l30, hR⟩, q⟩ := h
    have lk : (kvR R).length = R.length := List.length_map ..
    refine ⟨_, PSs.nox (pss_cons (ps_if (PW.pt (pw_or (pt_not (pt_val (pe_callB call_isi (by rfl) T.isinstance (by decide +kernel) (pa_cons (pv 0) (pa_cons (pe_bltn (v := .ty "dict") (by rfl) T.dict (by decide +kernel) rfl) pa_nil)))))
        (pw_or1 (pt_cmpR op_gt (pe_callB call_lenD (by rfl) T.len PySem.boot_len (pa_cons (pv 0) pa_nil)) (pe_gI T.KEEP (by rfl)) (nomark _)))))
        (pss_one ps_never) pss_nil)
      (pss_one (ps_if (pt_not (pt_val (pe_callB (cr_all rfl) (by rfl) T.all (by decide +kernel) (pa_cons (pe_lock (pe_lc (own := [("name", 1), ("rank", 2)]) (g := gTup K 2 (gCons (gName 1) (gCons (gName 2) gNil))) (tt := tYes) rfl scWantRanks.nd (pi_items (pv 0)) (blkOk_by (N := ["thing", "name", "rank"]) (sc := defScope sWantRanks) (by decide +kernel))
        (fun _ _ _ _ _ => pg_tup rfl (pgs_cons (pg_name (i := 1) scWantRanks.nd rfl (Or.inl rfl)) (pgs_cons (pg_name (i := 2) scWantRanks.nd rfl (Or.inl rfl)) pgs_nil))) (fun _ _ _ _ _ => pts_nil)
        (fun _ _ _ _ _ => pe_and (pe_use U (hr.mono (by decide)) (by rfl) (pa_cons (pv 1) pa_nil)) (pe_one (pe_use V2 hr (by rfl) (pa_cons (pv 2) pa_nil)))))) pa_nil)))) (pss_one ps_never) pss_nil))), ?_⟩
    refine ⟨_, rfl, .ref d, .ty "dict", .type "dict", _, true, rfl, .ty "dict", .base (.dK hd), kit_ty (by decide +kernel), true, rfl, ?_⟩
    refine iteF ?_
    refine ⟨_, rfl, d, kvR R, rfl, hd, ((kvR R).length : Int), 30, rfl, rfl, _, rfl, ?_⟩
    refine ifF (by rw [lk]; omega) ?_
    refine ⟨d, _, hd, trivial, fun od => ?_⟩
    have hd1 : (L2.upd H d (.frz od (.dK (kvR R)))) d = some (.frz od (.dK (kvR R))) := upd_same
    refine ⟨_, rfl, d, od, kvR R, rfl, hd1, fun D hD => lc_it walk_items (fun i H2 => Same (L2.upd H d (.frz od (.dK (kvR R)))) H2 ∧ H2 D = some (.lst ((List.replicate i true).map V.bl))) ⟨same_upd hD, upd_same⟩ (fun i H2 _ h => h.1 _ _ hd1) ?_ ?_⟩
    · rintro i x H2 H3 hi ⟨sm, hl⟩ ⟨t, x1, y1, rfl, nt, rfl, e1, e2⟩
      have hi2 : i < R.length := by omega
      have he : (kvR R)[i]? = some (.inr R[i].1, .int R[i].2) := by
        unfold kvR
        rw [List.getElem?_map, List.getElem?_eq_getElem hi2]
        rfl
      dsimp only at e1 e2
      rw [he] at e1 e2
      cases e1
      cases e2
      obtain ⟨r1, r2, r3⟩ := hR R[i] (List.getElem_mem hi2)
      have sm2 : Same H2 (L2.upd H2 t (.tup [kV (.inr R[i].1), .int R[i].2])) := same_upd nt
      refine ⟨t, _, rfl, SqT.of upd_same, rfl, _, _, rfl, _, _, rfl, rfl, rfl, ?_⟩
      refine ⟨_, rfl, R[i].1, rfl, r1, fun H4 sm4 => ⟨true, rfl, ?_⟩⟩
      refine iteT ?_
      have hD4 : H4 D = some (.lst ((List.replicate i true).map V.bl)) := sm4 _ _ (sm2 _ _ hl)
      refine ⟨_, rfl, R[i].2, rfl, r2, r3, _, hD4, by rw [List.length_map, List.length_replicate]; exact sz63 (by omega), fun b o e => ?_, ?_⟩
      · rw [upd_ne (ne_of_none e hD)]
        exact sm4 _ _ (sm2 _ _ (sm b o e))
      · rw [upd_same]
        simp [List.replicate_succ']
    · rintro H2 ⟨sm, hl⟩
      have eD : D ≠ d := fun z => by rw [z, hd1] at hD; cases hD
      refine ⟨sm _ _ hd1, D, List.replicate (kvR R).length true, rfl, SqL.of (by rw [upd_ne eD]; exact hl), ?_⟩
      have e : (List.replicate (kvR R).length true).all id = true := by simp
      rw [e]
      refine ⟨true, rfl, ?_⟩
      refine iteF ?_
      refine q _ fun b o e => ?_
      by_cases eb : b = d
      · subst eb
        rw [hd] at e
        rw [upd_same]
        exact e
      · rw [upd_ne eb]
        exact sm b o (by rw [upd_ne eb]; exact e)
end
end LT
namespace LT
open PySem PySem.Spec PyProof.Rows L2
/-! ### a list that is compared with [] -/
def rNeNil (K : PySem.W.Frag) : R2 := fun x y H Q => ∃ (a b : Addr) (xs : List V), x = .ref a ∧ y = .ref b ∧ SqL K H a xs ∧ H b = some (.lst []) ∧ Q (.bl (!xs.isEmpty)) H
theorem op_neNil {X : Cx} (hu : X.A.units + 64 < cLine) : OpR X (compareOp .NotEq) (rNeNil X.K) := by
  intro pins s σ H x y v u Q I rx ry h
  obtain ⟨a, b, xs, rfl, rfl, hs, hb, q⟩ := h
  cases rx
  cases ry
  obtain ⟨its, rv, p, _⟩ := I.list hs
  obtain ⟨jts, rw_, p2, _⟩ := I.list (SqL.of (K := X.K) hb)
  cases rw_
  cases rv with
  | nil =>
    refine SeqAt.RcNeAt.lists p.isList p2.isList rfl (by omega) (e := fun _ => true) (fun j j1 _ => absurd j1 (Nat.not_lt_zero _)) _ _ _ _ ?_
    exact ⟨.bl false, H, I, rfl, q⟩
  | cons r rr =>
    refine SeqAt.RcNeAt.lists_lengths p.isList p2.isList (by simp) (by omega) _ _ _ _ ?_
    exact ⟨.bl true, H, I, rfl, q⟩
theorem paired_append {α β : Type} {F : α → β → Prop} : ∀ {as cs : List α} {bs ds : List β}, Paired F as bs → Paired F cs ds → Paired F (as ++ cs) (bs ++ ds)
  | _, _, _, _, .nil, q => q
  | _, _, _, _, .cons r t, q => .cons r (paired_append t q)
theorem paired_split {α β : Type} {F : α → β → Prop} : ∀ {as cs : List α} {bs ds : List β}, as.length = bs.length → Paired F (as ++ cs) (bs ++ ds) → Paired F as bs ∧ Paired F cs ds
  | [], _, [], _, _, p => ⟨.nil, p⟩
  | [], _, _ :: _, _, h, _ => by simp at h
  | _ :: _, _, [], _, h, _ => by simp at h
  | a :: as, cs, b :: bs, ds, h, p => by
    cases p with
    | cons r t =>
      obtain ⟨q1, q2⟩ := paired_split (by simpa using h) t
      exact ⟨.cons r q1, q2⟩
/-! ### rows in the heap -/
section
variable {α : Type}
def vO (v : α → V) : Option α → V
  | none => .non
  | some a => v a
def rowV (v : α → V) (r : Row α) : List V := [.int r.1, vO v r.2]
/-- the rows stand at l, each a tuple -/
def RowsAt (v : α → V) (H : Hp) (l : Addr) (rows : List (Row α)) : Prop := ∃ ts : List Addr, H l = some (.lst (ts.map V.ref)) ∧ Rws H ts (rows.map (rowV v))
theorem Rws.keep {H H' : Hp} {ts : List Addr} {bs : List (List V)} (r : Rws H ts bs) (h : ∀ t x, H t = some (.tup x) → H' t = some (.tup x)) : Rws H' ts bs := Paired.mapP r fun t b e => h t b e
theorem RowsAt.keep {v : α → V} {H H' : Hp} {l : Addr} {rows : List (Row α)} (r : RowsAt v H l rows) (hl : ∀ xs, H l = some (.lst xs) → H' l = some (.lst xs)) (h : ∀ t x, H t = some (.tup x) → H' t = some (.tup x)) : RowsAt v H' l rows := by
  obtain ⟨ts, e, r⟩ := r
  exact ⟨ts, hl _ e, Rws.keep r h⟩
end
section
variable {P : Program} {w : World} {K : PySem.W.Frag} {mg : Str → Option Value} {base : Heap} {f : Addr} {fd : FuncData}
/-! ### put_down -/
def spPutDown : Sp := fun vs H Q _ => ∃ (α : Type) (v : α → V) (l : Addr) (rows : List (Row α)) (e : Int) (o : Option α), vs = [.ref l, .int e, vO v o] ∧ RowsAt v H l rows ∧ rows.length ≤ 60 ∧
  ∀ H', Kp (· = l) H H' → RowsAt v H' l (putDown rows e o) → Q .non H'
theorem scPutDown : FnScope ["rows", "known", "worth"] ["rows", "known", "worth"] (defScope sPutDown) := ⟨rfl, rfl, rfl, by decide +kernel, rfl, by decide +kernel, by decide +kernel⟩
theorem okPutDown (F : FnP K "put_down" "put_down" sPutDown [] f fd) : FnOk P w K mg base CX0 1 f fd ["rows", "known", "worth"] spPutDown := by
  refine F.ok scPutDown (fun vs H Q E h => ?_) (fun cdv A outer s H vs Q E hr h => ?_)
  · obtain ⟨α, v, l, rows, e, o, rfl, _⟩ := h; rfl
  · obtain ⟨α, v, l, rows, e, o, rfl, ⟨ts, hl, hrw⟩, lz, q⟩ := h
    have lts : ts.length = rows.length := by have := Paired.length hrw; rw [List.length_map] at this; exact this
    refine ⟨_, PSs.nox (pss_cons (ps_if (PW.pt (pw_and (pt_cmpR (op_neNil hr.units) (pv 0) (pe_lst pa_nil) (nomark _)) (pw_and1 (pt_cmpR op_eq (pe_ix ix_tup (pe_ix ix_list (pv 0) (pe_un un_neg pe_int) (fun _ _ => rfl)) pe_int (fun _ _ => rfl)) (pv 1) (nomark _)))))
        (pss_one (ps_expr (pe_bm0 PySem.F.plainAttrs_list PySem.F.slot_list_pop PySem.F.type_list_pop mt_pop (pv 0)))) pss_nil)
      (pss_one (ps_expr (pe_bm PySem.F.plainAttrs_list PySem.F.slot_list_append PySem.F.type_list_append mt_append (pv 0) (pa_cons (pe_tup (pa_cons (pv 1) (pa_cons (pv 2) pa_nil))) pa_nil))))), ?_⟩
    refine ⟨_, rfl, by decide, fun b hb => ?_⟩
    have nb : l ≠ b := ne_of_none hl hb
    have hl1 : (L2.upd H b (.lst [])) l = some (.lst (ts.map V.ref)) := by rw [upd_ne nb]; exact hl
    have sm1 : Same H (L2.upd H b (.lst [])) := same_upd hb
    have rw1 : Rws (L2.upd H b (.lst [])) ts (rows.map (rowV v)) := Rws.keep hrw fun t x => sm1 t _
    refine ⟨l, b, _, rfl, rfl, SqL.of hl1, upd_same, _, rfl, ?_⟩
    -- behind the if: the append
    have tail : ∀ (H2 : Hp) (ts2 : List Addr) (rows2 : List (Row α)), Kp (· = l) H H2 → H2 l = some (.lst (ts2.map V.ref)) → Rws H2 ts2 (rows2.map (rowV v)) → rows2.length ≤ 60 → putDown rows e o = rows2 ++ [(e, o)] →
        tDrop (tBM K "list" rAppend (tVar 0) (tCons (tTup (tCons (tVar 1) (tCons (tVar 2) tNil))) tNil)) { nx := fun _ H' => Q .non H', rt := Q } (L2.start ["rows", "known", "worth"] [.ref l, .int e, vO v o]) H2 := by
      intro H2 ts2 rows2 kp hl2 rw2 lz2 ep
      have lts2 : ts2.length = rows2.length := by have := Paired.length rw2; rw [List.length_map] at this; exact this
      refine ⟨_, rfl, .inl ⟨rfl, _, SqL.of hl2⟩, _, rfl, _, rfl, Nat.le_of_lt (sz63 (by show 2 ≤ 64; decide)), fun t ht => ?_⟩
      have nt : l ≠ t := ne_of_none hl2 ht
      refine ⟨l, _, _, rfl, rfl, by rw [upd_ne nt]; exact hl2, by rw [List.length_map]; exact sz63 (by omega), ?_⟩
      refine q _ ((kp.updN (kp.free ht (fun z => nt z.symm))).upd rfl) ?_
      rw [ep]
      refine ⟨ts2 ++ [t], by rw [upd_same, List.map_append]; rfl, ?_⟩
      have k3 : ∀ t' x, H2 t' = some (.tup x) → (L2.upd (L2.upd H2 t (.tup [.int e, vO v o])) l (.lst (ts2.map V.ref ++ [.ref t]))) t' = some (.tup x) := fun t' x hx => by
        rw [upd_ne (ne_of hx hl2 (by intro z; cases z)), upd_ne (ne_of_none hx ht)]
        exact hx
      rw [List.map_append]
      exact paired_append (Rws.keep rw2 k3) (.cons (by rw [upd_ne nt.symm, upd_same]; rfl) .nil)
    by_cases hn : rows = []
    · subst hn
      have : ts = [] := List.eq_nil_of_length_eq_zero (by rw [lts]; rfl)
      subst this
      exact tail _ [] [] (Same.kp sm1) hl1 .nil (Nat.zero_le _) rfl
    · have hts : ts ≠ [] := fun z => by rw [z] at lts; exact hn (List.eq_nil_of_length_eq_zero lts.symm)
      obtain ⟨ts0, t0, rfl⟩ : ∃ a b, ts = a ++ [b] := ⟨ts.dropLast, ts.getLast hts, (List.dropLast_concat_getLast hts).symm⟩
      obtain ⟨rs0, r0, rfl⟩ : ∃ a b, rows = a ++ [b] := ⟨rows.dropLast, rows.getLast hn, (List.dropLast_concat_getLast hn).symm⟩
      have le : ts0.length = rs0.length := by simpa using lts
      rw [List.map_append] at rw1
      obtain ⟨rwa, rwb⟩ := paired_split (by rw [List.length_map]; exact le) rw1
      have ht0 : (L2.upd H b (.lst [])) t0 = some (.tup (rowV v r0)) := by cases rwb with | cons a _ => exact a
      have ne1 : (!((ts0 ++ [t0]).map V.ref).isEmpty) = true := by simp
      rw [ne1]
      refine iteT ?_
      refine ⟨_, rfl, 1, rfl, l, _, _, .ref t0, rfl, rfl, SqL.of hl1, by rw [List.map_append]; exact atI_last _ _, ?_⟩
      refine ⟨t0, _, _, .int r0.1, rfl, rfl, SqT.of ht0, atI_nat (j := 0) rfl, _, rfl, rfl, _, rfl, ?_⟩
      have pd : putDown (rs0 ++ [r0]) e o = (if r0.1 = e then rs0 else rs0 ++ [r0]) ++ [(e, o)] := by
        unfold putDown isLast
        simp
      by_cases he : r0.1 = e
      · refine ifT (by rw [he]) ?_
        refine ⟨_, rfl, .inl ⟨rfl, _, SqL.of hl1⟩, l, _, .ref t0, rfl, rfl, hl1, by simp, ?_⟩
        refine tail _ ts0 rs0 ((Same.kp sm1).upd rfl) (by rw [upd_same]; simp) (Rws.keep rwa fun t x hx => ?_) (by simp at lz; omega) (by rw [pd, if_pos he])
        rw [upd_ne (ne_of hx hl1 (by intro z; cases z))]
        exact hx
      · refine ifF (fun z => he (V.int.inj z)) ?_
        exact tail _ (ts0 ++ [t0]) (rs0 ++ [r0]) (Same.kp sm1) hl1 (by rw [List.map_append]; exact rw1) lz (by rw [pd, if_neg he])
/-! ### last_told -/
def spLastTold : Sp := fun vs H Q _ => ∃ (α : Type) (v : α → V) (l : Addr) (rows : List (Row α)) (k : Option Int), vs = [.ref l, vK k] ∧ RowsAt v H l rows ∧ Q (vO v (lastTold k rows)) H
theorem scLastTold : FnScope ["rows", "known", "found", "told_on", "worth"] ["rows", "known"] (defScope sLastTold) := ⟨rfl, rfl, rfl, by decide +kernel, rfl, by decide +kernel, by decide +kernel⟩
theorem okLastTold (F : FnP K "last_told" "last_told" sLastTold [] f fd) : FnOk P w K mg base CX0 1 f fd ["rows", "known"] spLastTold := by
  refine F.ok scLastTold (fun vs H Q E h => ?_) (fun cdv A outer s H vs Q E hr h => ?_)
  · obtain ⟨α, v, l, rows, k, rfl, _⟩ := h; rfl
  · obtain ⟨α, v, l, rows, k, rfl, ⟨ts, hl, hrw⟩, q⟩ := h
    have lts : ts.length = rows.length := by have := Paired.length hrw; rw [List.length_map] at this; exact this
    refine ⟨_, PSs.nox (pss_cons (ps_set (i := 2) scLastTold.nd rfl (Or.inl rfl) pe_non)
      (pss_cons (ps_for PassesOwn.never rfl (pi_list (pv 0)) (pg_tup rfl (pgs_cons (pg_name (i := 3) scLastTold.nd rfl (Or.inl rfl)) (pgs_cons (pg_name (i := 4) scLastTold.nd rfl (Or.inl rfl)) pgs_nil)))
        (pss_one (ps_if (PW.pt (pw_or (pt_cmpR op_isN (pv 1) pe_non (nomark _)) (pw_or1 (pt_cmpR op_le (pv 3) (pv 1) (nomark _))))) (pss_one (ps_set (i := 2) scLastTold.nd rfl (Or.inl rfl) (pv 4))) pss_nil)))
      (pss_one (ps_ret (pv 2))))), ?_⟩
    refine ⟨_, rfl, l, rfl, ⟨_, SqL.of hl⟩, for_it (walk_list (xs := ts.map V.ref)) (fun i σ H2 => H2 = H ∧ ∃ a b, σ = [some (.ref l), some (vK k), some (vO v (lastTold k (rows.take i))), a, b]) ⟨rfl, none, none, rfl⟩ (fun i σ H2 _ h => by rw [h.1]; exact SqL.of hl) ?_ ?_⟩
    · rintro i x σ H2 H3 hi ⟨rfl, a, b, rfl⟩ ⟨rfl, hx⟩
      rw [List.length_map] at hi
      have hx2 : (ts.map V.ref)[i]? = some (.ref ts[i]) := by rw [List.getElem?_map, List.getElem?_eq_getElem hi]; rfl
      rw [hx2] at hx
      cases hx
      have hi2 : i < rows.length := by omega
      obtain ⟨b', hb1, hb2⟩ := paired_at hrw hi
      have hb3 : b' = rowV v rows[i] := by
        rw [List.getElem?_map, List.getElem?_eq_getElem hi2] at hb1
        exact (Option.some.inj hb1).symm
      subst hb3
      have nx : lastTold k (rows.take (i + 1)) = if upTo k rows[i].1 = true then rows[i].2 else lastTold k (rows.take i) := by
        rw [List.take_succ_eq_append_getElem hi2, lastTold_snoc]
      refine ⟨ts[i], _, rfl, SqT.of hb2, rfl, _, _, rfl, _, _, rfl, rfl, ?_⟩
      cases k with
      | none =>
        refine ⟨_, rfl, rfl, _, rfl, ?_⟩
        refine iteT (iteT ⟨_, rfl, rfl, some (.int rows[i].1), some (vO v rows[i].2), ?_⟩)
        rw [nx]
        rfl
      | some k =>
        refine ⟨_, rfl, rfl, _, rfl, ?_⟩
        refine iteF ⟨_, rfl, _, rfl, _, _, rfl, rfl, _, rfl, ?_⟩
        refine ite2 (fun h => ⟨_, rfl, rfl, some (.int rows[i].1), some (vO v rows[i].2), ?_⟩) (fun h => ⟨rfl, some (.int rows[i].1), some (vO v rows[i].2), ?_⟩)
        · rw [nx, if_pos (show upTo (some k) rows[i].1 = true from h)]
          rfl
        · rw [nx, if_neg (show ¬ upTo (some k) rows[i].1 = true from h)]
          rfl
    · rintro σ H2 ⟨rfl, a, b, rfl⟩
      refine ⟨_, rfl, ?_⟩
      rw [List.length_map, lts, List.take_length]
      exact q
end
end LT
namespace LT
open PySem PySem.Spec PyProof.Rows L2
/-! ### the book in the heap -/
def kOf (p : Str × Int) : List L2.Key := [.inr p.1, .inl p.2]
def kvT {α : Type} (m : Tb α) (ls : List Addr) : List (List L2.Key × V) := List.zipWith (fun e l => (kOf e.1, V.ref l)) m ls
structure TbAt {α : Type} (v : α → V) (H : Hp) (d : Addr) (ls : List Addr) (m : Tb α) : Prop where
  dt : H d = some (.dT (kvT m ls))
  rs : Paired (fun (e : (Str × Int) × List (Row α)) (l : Addr) => RowsAt v H l e.2) m ls
theorem kvT_len {α : Type} {m : Tb α} {ls : List Addr} (h : m.length = ls.length) : (kvT m ls).length = m.length := by
  unfold kvT
  rw [List.length_zipWith]
  omega
theorem kvT_at {α : Type} {m : Tb α} {ls : List Addr} {i : Nat} {k : List L2.Key} {v : V} (h : (kvT m ls)[i]? = some (k, v)) : ∃ e l, m[i]? = some e ∧ ls[i]? = some l ∧ k = kOf e.1 ∧ v = .ref l := by
  unfold kvT at h
  rw [List.getElem?_zipWith] at h
  cases hm : m[i]? with
  | none => rw [hm] at h; cases h
  | some e =>
    cases hl : ls[i]? with
    | none => rw [hm, hl] at h; cases h
    | some l =>
      rw [hm, hl] at h
      cases h
      exact ⟨e, l, rfl, rfl, rfl, rfl⟩
def fldsB (dR dM dL : Addr) (tl : V) : List (Str × V) := putF "told_last" tl (putF "landings_told" (.ref dL) (putF "moves_told" (.ref dM) (putF "own_ranks" (.ref dR) [])))
theorem fB1 : ¬ (("own_ranks" : Str) = "told_last") := by decide +kernel
theorem fB2 : ¬ (("own_ranks" : Str) = "landings_told") := by decide +kernel
theorem fB3 : ¬ (("own_ranks" : Str) = "moves_told") := by decide +kernel
theorem fB4 : ¬ (("moves_told" : Str) = "told_last") := by decide +kernel
theorem fB5 : ¬ (("moves_told" : Str) = "landings_told") := by decide +kernel
theorem fB6 : ¬ (("landings_told" : Str) = "told_last") := by decide +kernel
section
variable (dR dM dL : Addr) (tl : V)
theorem fldsB_eq : fldsB dR dM dL tl = [(("own_ranks" : Str), V.ref dR), (("moves_told" : Str), V.ref dM), (("landings_told" : Str), V.ref dL), (("told_last" : Str), tl)] := by
  simp only [fldsB, putF, if_neg fB1, if_neg fB2, if_neg fB3, if_neg fB4, if_neg fB5, if_neg fB6]
theorem fldsB_ranks : (fldsB dR dM dL tl).lookup ("own_ranks" : Str) = some (.ref dR) := by
  unfold fldsB
  rw [lookup_putF, if_neg fB1, lookup_putF, if_neg fB2, lookup_putF, if_neg fB3, lookup_putF, if_pos rfl]
theorem fldsB_moves : (fldsB dR dM dL tl).lookup ("moves_told" : Str) = some (.ref dM) := by
  unfold fldsB
  rw [lookup_putF, if_neg fB4, lookup_putF, if_neg fB5, lookup_putF, if_pos rfl]
theorem fldsB_lands : (fldsB dR dM dL tl).lookup ("landings_told" : Str) = some (.ref dL) := by
  unfold fldsB
  rw [lookup_putF, if_neg fB6, lookup_putF, if_pos rfl]
theorem fldsB_last : (fldsB dR dM dL tl).lookup ("told_last" : Str) = some tl := by
  unfold fldsB
  rw [lookup_putF, if_pos rfl]
theorem fldsB_put (z : V) : putF "told_last" z (fldsB dR dM dL tl) = fldsB dR dM dL z := by
  rw [fldsB_eq, fldsB_eq]
  have g1 : ¬ (("told_last" : Str) = "own_ranks") := by decide +kernel
  have g2 : ¬ (("told_last" : Str) = "moves_told") := by decide +kernel
  have g3 : ¬ (("told_last" : Str) = "landings_told") := by decide +kernel
  simp only [putF, if_neg fB1, if_neg fB4, if_neg fB6, if_true]
theorem fldsB_no {m : Str} (h1 : ¬ m = "told_last") (h2 : ¬ m = "landings_told") (h3 : ¬ m = "moves_told") (h4 : ¬ m = "own_ranks") : (fldsB dR dM dL tl).lookup m = none := by
  unfold fldsB
  rw [lookup_putF, if_neg h1, lookup_putF, if_neg h2, lookup_putF, if_neg h3, lookup_putF, if_neg h4]
  all_goals rfl
end
/-- a book as data: where its parts stand, what it knows -/
structure Bk where
  p : Addr
  dR : Addr
  dM : Addr
  dL : Addr
  lsM : List Addr
  lsL : List Addr
  R : List (Str × Int)
  M : Tb Str
  L : Tb Int
  tl : Option Int
structure BookAt (K : PySem.W.Frag) (H : Hp) (b : Bk) : Prop where
  ob : ∃ dx, H b.p = some (.ins (cB K) dx (fldsB b.dR b.dM b.dL (vK b.tl)))
  rk : H b.dR = some (.dK (kvR b.R))
  mv : TbAt V.str H b.dM b.lsM b.M
  ld : TbAt V.int H b.dL b.lsL b.L
  ml : b.dM ≠ b.dL
theorem TbAt.keep {α : Type} {v : α → V} {H H' : Hp} {d : Addr} {ls : List Addr} {m : Tb α} {B : Addr → Prop} (t : TbAt v H d ls m) (k : Kp B H H') (hd : ¬ B d) (hl : ∀ l ∈ ls, ¬ B l) (ht : ∀ t x, H t = some (.tup x) → ¬ B t) : TbAt v H' d ls m := by
  refine ⟨k _ _ t.dt hd, ?_⟩
  have go : ∀ (m : Tb α) (ls : List Addr), (∀ l ∈ ls, ¬ B l) → Paired (fun (e : (Str × Int) × List (Row α)) (l : Addr) => RowsAt v H l e.2) m ls → Paired (fun (e : (Str × Int) × List (Row α)) (l : Addr) => RowsAt v H' l e.2) m ls := by
    intro m ls hl p
    induction p with
    | nil => exact .nil
    | @cons e l m ls r _ ih =>
      exact .cons (r.keep (fun xs e => k _ _ e (hl l (List.mem_cons_self ..))) fun t x e => k _ _ e (ht t x e)) (ih fun l h => hl l (List.mem_cons_of_mem _ h))
  exact go m ls hl t.rs
theorem BookAt.keep {K : PySem.W.Frag} {H H' : Hp} {b : Bk} {B : Addr → Prop} (t : BookAt K H b) (k : Kp B H H') (hp : ¬ B b.p) (hr : ¬ B b.dR) (hm : ¬ B b.dM) (hd : ¬ B b.dL) (hlm : ∀ l ∈ b.lsM, ¬ B l) (hll : ∀ l ∈ b.lsL, ¬ B l)
    (ht : ∀ t x, H t = some (.tup x) → ¬ B t) : BookAt K H' b := by
  obtain ⟨dx, e⟩ := t.ob
  exact ⟨⟨dx, k _ _ e hp⟩, k _ _ t.rk hr, t.mv.keep k hm hlm ht, t.ld.keep k hd hll ht, t.ml⟩
theorem BookAt.same {K : PySem.W.Frag} {H H' : Hp} {b : Bk} (t : BookAt K H b) (k : Same H H') : BookAt K H' b :=
  t.keep (B := fun _ => False) (Same.kp k) id id id id (fun _ _ => id) (fun _ _ => id) fun _ _ _ => id
/-! ### the moves that hold -/
def rowH {α : Type} (v : α → V) (p : Int × α) : List V := [.int p.1, v p.2]
/-- as known on k, by days -/
def held {α : Type} (v : α → V) (k : Option Int) (n : Str) (m : Tb α) : List (Int × α) := srt (rowH v) (heldU k n m)
theorem heldU_snoc {α : Type} (k : Option Int) (n : Str) (m : Tb α) (e : (Str × Int) × List (Row α)) : heldU k n (m ++ [e]) = heldU k n m ++ (if e.1.1 = n then (lastTold k e.2).map fun w => (e.1.2, w) else none).toList := by
  unfold heldU
  rw [List.filterMap_append]
  congr 1
section
variable {P : Program} {w : World} {K : PySem.W.Frag} {mg : Str → Option Value} {base : Heap} {f : Addr} {fd : FuncData}
def spHeldMoves (K : PySem.W.Frag) : Sp := fun vs H Q _ => ∃ (b : Bk) (n : Str) (k : Option Int), vs = [.ref b.p, .str n, vK k] ∧ BookAt K H b ∧ b.M.length ≤ 60 ∧
  ∀ (H' : Hp) (l : Addr) (ts : List Addr), Same H H' → H l = none → H' l = some (.lst (ts.map V.ref)) → Rws H' ts ((held V.str k n b.M).map (rowH V.str)) → Q (.ref l) H'
theorem scHeldMoves : FnScope ["self", "keeper", "known", "found", "name", "day", "rows", "place"] ["self", "keeper", "known"] (defScope sBHeldMoves) := ⟨rfl, rfl, rfl, by decide +kernel, rfl, by decide +kernel, by decide +kernel⟩
theorem okHeldMoves (F : FnP K "held_moves" "Book.held_moves" sBHeldMoves [] f fd) (T : Tx K mg) (U : Use P w K mg base 1 "last_told" ["rows", "known"] [] spLastTold) : FnOk P w K mg base CX0 2 f fd ["self", "keeper", "known"] (spHeldMoves K) := by
  refine F.ok scHeldMoves (fun vs H Q E h => ?_) (fun cdv A outer s H vs Q E hr h => ?_)
  · obtain ⟨b, n, k, rfl, _⟩ := h; rfl
  · obtain ⟨b, n, k, rfl, B, lz, q⟩ := h
    refine ⟨_, PSs.nox (pss_cons (ps_set (i := 3) scHeldMoves.nd rfl (Or.inl rfl) (pe_lst pa_nil))
      (pss_cons (ps_lock (ps_for PassesOwn.never rfl (pi_itemsT (pe_fld (pv 0) rfl))
          (pg_tup rfl (pgs_cons (pg_tup rfl (pgs_cons (pg_name (i := 4) scHeldMoves.nd rfl (Or.inl rfl)) (pgs_cons (pg_name (i := 5) scHeldMoves.nd rfl (Or.inl rfl)) pgs_nil))) (pgs_cons (pg_name (i := 6) scHeldMoves.nd rfl (Or.inl rfl)) pgs_nil)))
        (pss_cons (ps_set (i := 7) scHeldMoves.nd rfl (Or.inl rfl) (pe_use U hr (by rfl) (pa_cons (pv 6) (pa_cons (pv 2) pa_nil))))
        (pss_one (ps_if (PW.pt (pw_and (pt_cmpR op_eq (pv 4) (pv 1) (nomark _)) (pw_and1 (pt_cmpR op_notN (pv 7) pe_non (nomark _)))))
          (pss_one (ps_expr (pe_bm PySem.F.plainAttrs_list PySem.F.slot_list_append PySem.F.type_list_append mt_append (pv 3) (pa_cons (pe_tup (pa_cons (pv 5) (pa_cons (pv 7) pa_nil))) pa_nil)))) pss_nil)))))
      (pss_one (ps_ret (pe_callB (cr_sortM (rowH V.str) hr.units) (by rfl) T.sorted (by decide +kernel) (pa_cons (pv 3) pa_nil)))))), ?_⟩
    obtain ⟨dx, hp⟩ := B.ob
    refine ⟨by decide, fun F0 hF => ?_⟩
    have s1 : Same H (L2.upd H F0 (.lst [])) := same_upd hF
    have lm : b.M.length = b.lsM.length := Paired.length B.mv.rs
    have eF : b.dM ≠ F0 := ne_of_none B.mv.dt hF
    refine ⟨b.dM, _, s1 _ _ B.mv.dt, trivial, fun od => ?_⟩
    -- the heap while the dict is locked
    have L0 : (L2.upd (L2.upd H F0 (.lst [])) b.dM (.frz od (.dT (kvT b.M b.lsM)))) b.dM = some (.frz od (.dT (kvT b.M b.lsM))) := upd_same
    have off : ∀ c o, H c = some o → c ≠ b.dM → (L2.upd (L2.upd H F0 (.lst [])) b.dM (.frz od (.dT (kvT b.M b.lsM)))) c = some o := fun c o e n => by rw [upd_ne n]; exact s1 c o e
    have np : b.p ≠ b.dM := ne_of hp B.mv.dt (by intro z; cases z)
    refine ⟨_, rfl, b.p, cB K, dx, _, _, rfl, off _ _ hp np, T.clB, T.nMoves, fldsB_moves _ _ _ _, b.dM, od, _, rfl, L0, ?_⟩
    refine for_it walk_itemsT (fun i σ H2 => (∀ c o, H c = some o → c ≠ b.dM → H2 c = some o) ∧ H2 b.dM = some (.frz od (.dT (kvT b.M b.lsM))) ∧ (∃ ts : List Addr, H2 F0 = some (.lst (ts.map V.ref)) ∧ Rws H2 ts ((heldU k n (b.M.take i)).map (rowH V.str)) ∧ ts.length ≤ i) ∧
      ∃ a1 a2 a3 a4, σ = [some (.ref b.p), some (.str n), some (vK k), some (.ref F0), a1, a2, a3, a4])
      ⟨off, L0, ⟨[], by rw [upd_ne eF.symm, upd_same]; rfl, .nil, Nat.le_refl _⟩, none, none, none, none, rfl⟩ (fun i σ H2 _ h => h.2.1) ?_ ?_
    · rintro i x σ H2 H3 hi ⟨k1, k2, ⟨ts, hts, hrw, htl⟩, a1, a2, a3, a4, rfl⟩ ⟨t, kq, ky, va, hkv, rfl, nt, hkq, rfl⟩
      obtain ⟨e, l, he, hl, rfl, rfl⟩ := kvT_at hkv
      have hil : i < b.M.length := (List.getElem?_eq_some_iff.mp he).1
      obtain ⟨l2, hl2, rl⟩ := paired_get B.mv.rs he
      rw [hl] at hl2
      cases hl2
      have nFt : F0 ≠ t := ne_of_none hts nt
      have tk : b.M.take (i + 1) = b.M.take i ++ [e] := by rw [List.take_add_one, he]; rfl
      -- the key's tuple and the pair
      have hkq3 : (L2.upd H2 t (.tup [.ref kq, .ref l])) kq = some (.tup [.str e.1.1, .int e.1.2]) := by
        rw [upd_ne (ne_of_none hkq nt)]
        exact hkq
      refine ⟨t, _, rfl, SqT.of upd_same, rfl, _, _, rfl, ⟨kq, _, rfl, SqT.of hkq3, rfl, _, _, rfl, _, _, rfl, rfl, _, _, rfl, rfl, ?_⟩⟩
      have rl3 : RowsAt V.str (L2.upd H2 t (.tup [.ref kq, .ref l])) l e.2 := by
        refine rl.keep (fun xs h => ?_) fun c x h => ?_
        · have h2 := k1 _ _ h (ne_of h B.mv.dt (by intro z; cases z))
          rw [upd_ne (ne_of_none h2 nt)]
          exact h2
        · have h2 := k1 _ _ h (ne_of h B.mv.dt (by intro z; cases z))
          rw [upd_ne (ne_of_none h2 nt)]
          exact h2
      refine ⟨_, rfl, _, rfl, Str, V.str, l, e.2, k, rfl, rl3, ?_⟩
      have hs := heldU_snoc k n (b.M.take i) e
      rw [← tk] at hs
      -- behind the pair
      have j1 : ∀ c o, H c = some o → c ≠ b.dM → (L2.upd H2 t (.tup [.ref kq, .ref l])) c = some o := fun c o h hn => by
        have h2 := k1 c o h hn
        rw [upd_ne (ne_of_none h2 nt)]
        exact h2
      have j2 : (L2.upd H2 t (.tup [.ref kq, .ref l])) b.dM = some (.frz od (.dT (kvT b.M b.lsM))) := by rw [upd_ne (ne_of_none k2 nt)]; exact k2
      have j3 : (L2.upd H2 t (.tup [.ref kq, .ref l])) F0 = some (.lst (ts.map V.ref)) := by rw [upd_ne nFt]; exact hts
      have j4 : Rws (L2.upd H2 t (.tup [.ref kq, .ref l])) ts ((heldU k n (b.M.take i)).map (rowH V.str)) := Rws.keep hrw fun c x h => by rw [upd_ne (ne_of_none h nt)]; exact h
      have stay : heldU k n (b.M.take (i + 1)) = heldU k n (b.M.take i) → ∃ ts' : List Addr, (L2.upd H2 t (.tup [.ref kq, .ref l])) F0 = some (.lst (ts'.map V.ref)) ∧ Rws (L2.upd H2 t (.tup [.ref kq, .ref l])) ts' ((heldU k n (b.M.take (i + 1))).map (rowH V.str)) ∧ ts'.length ≤ i + 1 :=
        fun e => ⟨ts, j3, by rw [e]; exact j4, by omega⟩
      generalize L2.upd H2 t (.tup [.ref kq, .ref l]) = H3 at *
      refine ⟨_, rfl, _, rfl, rfl, _, rfl, ?_⟩
      by_cases en : e.1.1 = n
      · refine ifT (by rw [en]) ?_
        cases lt : lastTold k e.2 with
        | none =>
          refine ⟨_, rfl, rfl, _, rfl, ?_⟩
          refine iteF ⟨j1, j2, stay ?_, some (.str e.1.1), some (.int e.1.2), some (.ref l), some .non, rfl⟩
          rw [hs, if_pos en, lt]
          simp
        | some pl =>
          refine ⟨_, rfl, rfl, _, rfl, ?_⟩
          refine iteT ?_
          refine ⟨_, rfl, .inl ⟨rfl, _, SqL.of j3⟩, _, rfl, _, rfl, Nat.le_of_lt (sz63 (by show 2 ≤ 64; decide)), fun t2 ht2 => ?_⟩
          have n2 : F0 ≠ t2 := ne_of_none j3 ht2
          refine ⟨F0, _, _, rfl, rfl, by rw [upd_ne n2]; exact j3, by rw [List.length_map]; exact sz63 (by omega), ?_⟩
          have j5 : ∀ c o, H3 c = some o → c ≠ F0 → (L2.upd (L2.upd H3 t2 (.tup [.int e.1.2, .str pl])) F0 (.lst (ts.map V.ref ++ [.ref t2]))) c = some o := fun c o h hn => by
            rw [upd_ne hn, upd_ne (ne_of_none h ht2)]
            exact h
          refine ⟨fun c o h hn => j5 c o (j1 c o h hn) (ne_of_none h hF), j5 _ _ j2 eF, ⟨ts ++ [t2], by rw [upd_same, List.map_append]; rfl, ?_, by simp; omega⟩, some (.str e.1.1), some (.int e.1.2), some (.ref l), some (.str pl), rfl⟩
          rw [hs, if_pos en, lt, List.map_append]
          refine paired_append (Rws.keep j4 fun c x h => j5 c _ h (ne_of h j3 (by intro z; cases z))) (.cons ?_ .nil)
          rw [upd_ne n2.symm, upd_same]
          rfl
      · refine ifF (fun z => en (V.str.inj z)) ⟨j1, j2, stay ?_, some (.str e.1.1), some (.int e.1.2), some (.ref l), some (vO V.str (lastTold k e.2)), rfl⟩
        rw [hs, if_neg en]
        simp
    · rintro σ H2 ⟨k1, k2, ⟨ts, hts, hrw, htl⟩, a1, a2, a3, a4, rfl⟩
      rw [kvT_len lm, List.take_length] at hrw
      have u1 : ∀ c o, H2 c = some o → c ≠ b.dM → (L2.upd H2 b.dM (.dT (kvT b.M b.lsM))) c = some o := fun c o h hn => by rw [upd_ne hn]; exact h
      have r1 : Rws (L2.upd H2 b.dM (.dT (kvT b.M b.lsM))) ts ((heldU k n b.M).map (rowH V.str)) := Rws.keep hrw fun c x h => u1 c _ h (ne_of h k2 (by intro z; cases z))
      refine ⟨k2, _, rfl, F0, ts, heldU k n b.M, isI, [isS], rfl, SqL.of (u1 _ _ hts eF.symm), r1, ?_, ?_, fun p ts' hp r2 => ?_⟩
      · intro k' h
        rcases List.mem_cons.mp h with h | h
        · exact .inl h
        · exact .inr (List.mem_singleton.mp h)
      · intro x _
        exact .cons rfl (.cons rfl .nil)
      · have nM : b.dM ≠ p := fun z => by rw [← z, upd_same] at hp; cases hp
        have hp2 : H2 p = none := by
          rw [upd_ne nM.symm] at hp
          exact hp
        refine q _ p ts' (fun c o h => ?_) ?_ upd_same (Rws.keep r2 fun c x h => ?_)
        · by_cases ec : c = b.dM
          · subst ec
            rw [B.mv.dt] at h
            rw [upd_ne nM, upd_same]
            exact h
          · have h2 := k1 c o h ec
            rw [upd_ne (ne_of_none h2 hp2)]
            exact u1 c o h2 ec
        · cases e : H p with
          | none => rfl
          | some o =>
            have h2 := k1 p o e nM.symm
            rw [h2] at hp2
            cases hp2
        · rw [upd_ne (ne_of_none h hp)]
          exact h
def spHeldLandings (K : PySem.W.Frag) : Sp := fun vs H Q _ => ∃ (b : Bk) (n : Str) (k : Option Int), vs = [.ref b.p, .str n, vK k] ∧ BookAt K H b ∧ b.L.length ≤ 60 ∧
  ∀ (H' : Hp) (l : Addr) (ts : List Addr), Same H H' → H l = none → H' l = some (.lst (ts.map V.ref)) → Rws H' ts ((held V.int k n b.L).map (rowH V.int)) → Q (.ref l) H'
theorem scHeldLandings : FnScope ["self", "light", "known", "found", "name", "day", "rows", "weight"] ["self", "light", "known"] (defScope sBHeldLandings) := ⟨rfl, rfl, rfl, by decide +kernel, rfl, by decide +kernel, by decide +kernel⟩
theorem okHeldLandings (F : FnP K "held_landings" "Book.held_landings" sBHeldLandings [] f fd) (T : Tx K mg) (U : Use P w K mg base 1 "last_told" ["rows", "known"] [] spLastTold) : FnOk P w K mg base CX0 2 f fd ["self", "light", "known"] (spHeldLandings K) := by
  refine F.ok scHeldLandings (fun vs H Q E h => ?_) (fun cdv A outer s H vs Q E hr h => ?_)
  · obtain ⟨b, n, k, rfl, _⟩ := h; rfl
  · obtain ⟨b, n, k, rfl, B, lz, q⟩ := h
    refine ⟨_, PSs.nox (pss_cons (ps_set (i := 3) scHeldLandings.nd rfl (Or.inl rfl) (pe_lst pa_nil))
      (pss_cons (ps_lock (ps_for PassesOwn.never rfl (pi_itemsT (pe_fld (pv 0) rfl))
          (pg_tup rfl (pgs_cons (pg_tup rfl (pgs_cons (pg_name (i := 4) scHeldLandings.nd rfl (Or.inl rfl)) (pgs_cons (pg_name (i := 5) scHeldLandings.nd rfl (Or.inl rfl)) pgs_nil))) (pgs_cons (pg_name (i := 6) scHeldLandings.nd rfl (Or.inl rfl)) pgs_nil)))
        (pss_cons (ps_set (i := 7) scHeldLandings.nd rfl (Or.inl rfl) (pe_use U hr (by rfl) (pa_cons (pv 6) (pa_cons (pv 2) pa_nil))))
        (pss_one (ps_if (PW.pt (pw_and (pt_cmpR op_eq (pv 4) (pv 1) (nomark _)) (pw_and1 (pt_cmpR op_notN (pv 7) pe_non (nomark _)))))
          (pss_one (ps_expr (pe_bm PySem.F.plainAttrs_list PySem.F.slot_list_append PySem.F.type_list_append mt_append (pv 3) (pa_cons (pe_tup (pa_cons (pv 5) (pa_cons (pv 7) pa_nil))) pa_nil)))) pss_nil)))))
      (pss_one (ps_ret (pe_callB (cr_sortM (rowH V.int) hr.units) (by rfl) T.sorted (by decide +kernel) (pa_cons (pv 3) pa_nil)))))), ?_⟩
    obtain ⟨dx, hp⟩ := B.ob
    refine ⟨by decide, fun F0 hF => ?_⟩
    have s1 : Same H (L2.upd H F0 (.lst [])) := same_upd hF
    have lm : b.L.length = b.lsL.length := Paired.length B.ld.rs
    have eF : b.dL ≠ F0 := ne_of_none B.ld.dt hF
    refine ⟨b.dL, _, s1 _ _ B.ld.dt, trivial, fun od => ?_⟩
    -- the heap while the dict is locked
    have L0 : (L2.upd (L2.upd H F0 (.lst [])) b.dL (.frz od (.dT (kvT b.L b.lsL)))) b.dL = some (.frz od (.dT (kvT b.L b.lsL))) := upd_same
    have off : ∀ c o, H c = some o → c ≠ b.dL → (L2.upd (L2.upd H F0 (.lst [])) b.dL (.frz od (.dT (kvT b.L b.lsL)))) c = some o := fun c o e n => by rw [upd_ne n]; exact s1 c o e
    have np : b.p ≠ b.dL := ne_of hp B.ld.dt (by intro z; cases z)
    refine ⟨_, rfl, b.p, cB K, dx, _, _, rfl, off _ _ hp np, T.clB, T.nLands, fldsB_lands _ _ _ _, b.dL, od, _, rfl, L0, ?_⟩
    refine for_it walk_itemsT (fun i σ H2 => (∀ c o, H c = some o → c ≠ b.dL → H2 c = some o) ∧ H2 b.dL = some (.frz od (.dT (kvT b.L b.lsL))) ∧ (∃ ts : List Addr, H2 F0 = some (.lst (ts.map V.ref)) ∧ Rws H2 ts ((heldU k n (b.L.take i)).map (rowH V.int)) ∧ ts.length ≤ i) ∧
      ∃ a1 a2 a3 a4, σ = [some (.ref b.p), some (.str n), some (vK k), some (.ref F0), a1, a2, a3, a4])
      ⟨off, L0, ⟨[], by rw [upd_ne eF.symm, upd_same]; rfl, .nil, Nat.le_refl _⟩, none, none, none, none, rfl⟩ (fun i σ H2 _ h => h.2.1) ?_ ?_
    · rintro i x σ H2 H3 hi ⟨k1, k2, ⟨ts, hts, hrw, htl⟩, a1, a2, a3, a4, rfl⟩ ⟨t, kq, ky, va, hkv, rfl, nt, hkq, rfl⟩
      obtain ⟨e, l, he, hl, rfl, rfl⟩ := kvT_at hkv
      have hil : i < b.L.length := (List.getElem?_eq_some_iff.mp he).1
      obtain ⟨l2, hl2, rl⟩ := paired_get B.ld.rs he
      rw [hl] at hl2
      cases hl2
      have nFt : F0 ≠ t := ne_of_none hts nt
      have tk : b.L.take (i + 1) = b.L.take i ++ [e] := by rw [List.take_add_one, he]; rfl
      -- the key's tuple and the pair
      have hkq3 : (L2.upd H2 t (.tup [.ref kq, .ref l])) kq = some (.tup [.str e.1.1, .int e.1.2]) := by
        rw [upd_ne (ne_of_none hkq nt)]
        exact hkq
      refine ⟨t, _, rfl, SqT.of upd_same, rfl, _, _, rfl, ⟨kq, _, rfl, SqT.of hkq3, rfl, _, _, rfl, _, _, rfl, rfl, _, _, rfl, rfl, ?_⟩⟩
      have rl3 : RowsAt V.int (L2.upd H2 t (.tup [.ref kq, .ref l])) l e.2 := by
        refine rl.keep (fun xs h => ?_) fun c x h => ?_
        · have h2 := k1 _ _ h (ne_of h B.ld.dt (by intro z; cases z))
          rw [upd_ne (ne_of_none h2 nt)]
          exact h2
        · have h2 := k1 _ _ h (ne_of h B.ld.dt (by intro z; cases z))
          rw [upd_ne (ne_of_none h2 nt)]
          exact h2
      refine ⟨_, rfl, _, rfl, Int, V.int, l, e.2, k, rfl, rl3, ?_⟩
      have hs := heldU_snoc k n (b.L.take i) e
      rw [← tk] at hs
      -- behind the pair
      have j1 : ∀ c o, H c = some o → c ≠ b.dL → (L2.upd H2 t (.tup [.ref kq, .ref l])) c = some o := fun c o h hn => by
        have h2 := k1 c o h hn
        rw [upd_ne (ne_of_none h2 nt)]
        exact h2
      have j2 : (L2.upd H2 t (.tup [.ref kq, .ref l])) b.dL = some (.frz od (.dT (kvT b.L b.lsL))) := by rw [upd_ne (ne_of_none k2 nt)]; exact k2
      have j3 : (L2.upd H2 t (.tup [.ref kq, .ref l])) F0 = some (.lst (ts.map V.ref)) := by rw [upd_ne nFt]; exact hts
      have j4 : Rws (L2.upd H2 t (.tup [.ref kq, .ref l])) ts ((heldU k n (b.L.take i)).map (rowH V.int)) := Rws.keep hrw fun c x h => by rw [upd_ne (ne_of_none h nt)]; exact h
      have stay : heldU k n (b.L.take (i + 1)) = heldU k n (b.L.take i) → ∃ ts' : List Addr, (L2.upd H2 t (.tup [.ref kq, .ref l])) F0 = some (.lst (ts'.map V.ref)) ∧ Rws (L2.upd H2 t (.tup [.ref kq, .ref l])) ts' ((heldU k n (b.L.take (i + 1))).map (rowH V.int)) ∧ ts'.length ≤ i + 1 :=
        fun e => ⟨ts, j3, by rw [e]; exact j4, by omega⟩
      generalize L2.upd H2 t (.tup [.ref kq, .ref l]) = H3 at *
      refine ⟨_, rfl, _, rfl, rfl, _, rfl, ?_⟩
      by_cases en : e.1.1 = n
      · refine ifT (by rw [en]) ?_
        cases lt : lastTold k e.2 with
        | none =>
          refine ⟨_, rfl, rfl, _, rfl, ?_⟩
          refine iteF ⟨j1, j2, stay ?_, some (.str e.1.1), some (.int e.1.2), some (.ref l), some .non, rfl⟩
          rw [hs, if_pos en, lt]
          simp
        | some pl =>
          refine ⟨_, rfl, rfl, _, rfl, ?_⟩
          refine iteT ?_
          refine ⟨_, rfl, .inl ⟨rfl, _, SqL.of j3⟩, _, rfl, _, rfl, Nat.le_of_lt (sz63 (by show 2 ≤ 64; decide)), fun t2 ht2 => ?_⟩
          have n2 : F0 ≠ t2 := ne_of_none j3 ht2
          refine ⟨F0, _, _, rfl, rfl, by rw [upd_ne n2]; exact j3, by rw [List.length_map]; exact sz63 (by omega), ?_⟩
          have j5 : ∀ c o, H3 c = some o → c ≠ F0 → (L2.upd (L2.upd H3 t2 (.tup [.int e.1.2, .int pl])) F0 (.lst (ts.map V.ref ++ [.ref t2]))) c = some o := fun c o h hn => by
            rw [upd_ne hn, upd_ne (ne_of_none h ht2)]
            exact h
          refine ⟨fun c o h hn => j5 c o (j1 c o h hn) (ne_of_none h hF), j5 _ _ j2 eF, ⟨ts ++ [t2], by rw [upd_same, List.map_append]; rfl, ?_, by simp; omega⟩, some (.str e.1.1), some (.int e.1.2), some (.ref l), some (.int pl), rfl⟩
          rw [hs, if_pos en, lt, List.map_append]
          refine paired_append (Rws.keep j4 fun c x h => j5 c _ h (ne_of h j3 (by intro z; cases z))) (.cons ?_ .nil)
          rw [upd_ne n2.symm, upd_same]
          rfl
      · refine ifF (fun z => en (V.str.inj z)) ⟨j1, j2, stay ?_, some (.str e.1.1), some (.int e.1.2), some (.ref l), some (vO V.int (lastTold k e.2)), rfl⟩
        rw [hs, if_neg en]
        simp
    · rintro σ H2 ⟨k1, k2, ⟨ts, hts, hrw, htl⟩, a1, a2, a3, a4, rfl⟩
      rw [kvT_len lm, List.take_length] at hrw
      have u1 : ∀ c o, H2 c = some o → c ≠ b.dL → (L2.upd H2 b.dL (.dT (kvT b.L b.lsL))) c = some o := fun c o h hn => by rw [upd_ne hn]; exact h
      have r1 : Rws (L2.upd H2 b.dL (.dT (kvT b.L b.lsL))) ts ((heldU k n b.L).map (rowH V.int)) := Rws.keep hrw fun c x h => u1 c _ h (ne_of h k2 (by intro z; cases z))
      refine ⟨k2, _, rfl, F0, ts, heldU k n b.L, isI, [isI], rfl, SqL.of (u1 _ _ hts eF.symm), r1, ?_, ?_, fun p ts' hp r2 => ?_⟩
      · intro k' h
        rcases List.mem_cons.mp h with h | h
        · exact .inl h
        · exact .inl (List.mem_singleton.mp h)
      · intro x _
        exact .cons rfl (.cons rfl .nil)
      · have nM : b.dL ≠ p := fun z => by rw [← z, upd_same] at hp; cases hp
        have hp2 : H2 p = none := by
          rw [upd_ne nM.symm] at hp
          exact hp
        refine q _ p ts' (fun c o h => ?_) ?_ upd_same (Rws.keep r2 fun c x h => ?_)
        · by_cases ec : c = b.dL
          · subst ec
            rw [B.ld.dt] at h
            rw [upd_ne nM, upd_same]
            exact h
          · have h2 := k1 c o h ec
            rw [upd_ne (ne_of_none h2 hp2)]
            exact u1 c o h2 ec
        · cases e : H p with
          | none => rfl
          | some o =>
            have h2 := k1 p o e nM.symm
            rw [h2] at hp2
            cases hp2
        · rw [upd_ne (ne_of_none h hp)]
          exact h
end
end LT
namespace LT
open PySem PySem.Spec PyProof.Rows L2
/-! ### a table is told something -/
theorem kOf_inj {p q : Str × Int} (h : kOf p = kOf q) : p = q := by
  obtain ⟨a, b⟩ := p
  obtain ⟨c, d⟩ := q
  unfold kOf at h
  injection h with h1 h2
  injection h2 with h2 _
  cases h1
  cases h2
  rfl
section
variable {α : Type} {v : α → V}
theorem tell_there {H : Hp} {key : Str × Int} {l : Addr} (e : Int) (o : Option α) : ∀ {m : Tb α} {ls : List Addr}, Paired (fun (e : (Str × Int) × List (Row α)) (l : Addr) => RowsAt v H l e.2) m ls → valV (kvT m ls) (kOf key) = some (.ref l) → ls.Nodup →
    l ∈ ls ∧ ∃ en ∈ m, RowsAt v H l en.2 ∧ kvT (tellT m key e o) ls = kvT m ls ∧
      ∀ H', RowsAt v H' l (putDown en.2 e o) → (∀ l' rs, l' ∈ ls → l' ≠ l → RowsAt v H l' rs → RowsAt v H' l' rs) → Paired (fun (e : (Str × Int) × List (Row α)) (l : Addr) => RowsAt v H' l e.2) (tellT m key e o) ls
  | _, _, .nil, hv, _ => by cases hv
  | (k, rows) :: m, c :: ls, .cons r t, hv, nd => by
    have hv2 : valV ((kOf k, V.ref c) :: kvT m ls) (kOf key) = some (.ref l) := hv
    rw [List.nodup_cons] at nd
    by_cases hk : k = key
    · subst hk
      rw [valV_pos rfl] at hv2
      cases hv2
      refine ⟨List.mem_cons_self .., _, List.mem_cons_self .., r, ?_, fun H' h1 h2 => ?_⟩
      · unfold tellT
        rw [if_pos rfl]
        rfl
      · unfold tellT
        rw [if_pos rfl]
        refine .cons h1 ?_
        have go : ∀ (m : Tb α) (ls' : List Addr), (∀ x ∈ ls', x ∈ ls) → Paired (fun (e : (Str × Int) × List (Row α)) (l : Addr) => RowsAt v H l e.2) m ls' → Paired (fun (e : (Str × Int) × List (Row α)) (l : Addr) => RowsAt v H' l e.2) m ls' := by
          intro m ls' hs p
          induction p with
          | nil => exact .nil
          | @cons e' l' m ls' r _ ih =>
            have hm := hs l' (List.mem_cons_self ..)
            exact .cons (h2 l' _ (List.mem_cons_of_mem _ hm) (fun z => nd.1 (z ▸ hm)) r) (ih fun x hx => hs x (List.mem_cons_of_mem _ hx))
        exact go m ls (fun _ h => h) t
    · have hk2 : ¬ kOf k = kOf key := fun z => hk (kOf_inj z)
      rw [valV_neg hk2] at hv2
      obtain ⟨h1, en, h2, h3, h4, h5⟩ := tell_there e o t hv2 nd.2
      refine ⟨List.mem_cons_of_mem _ h1, en, List.mem_cons_of_mem _ h2, h3, ?_, fun H' q1 q2 => ?_⟩
      · unfold tellT
        rw [if_neg hk]
        show (kOf k, V.ref c) :: kvT (tellT m key e o) ls = (kOf k, V.ref c) :: kvT m ls
        rw [h4]
      · unfold tellT
        rw [if_neg hk]
        exact .cons (q2 c _ (List.mem_cons_self ..) (fun z => nd.1 (z ▸ h1)) r) (h5 H' q1 fun l' rs hm => q2 l' rs (List.mem_cons_of_mem _ hm))
theorem tell_new {key : Str × Int} (e : Int) (o : Option α) : ∀ {m : Tb α} {ls : List Addr}, m.length = ls.length → valV (kvT m ls) (kOf key) = none → tellT m key e o = m ++ [(key, [(e, o)])]
  | [], _, _, _ => rfl
  | (k, rows) :: m, [], h, _ => by simp at h
  | (k, rows) :: m, c :: ls, h, hv => by
    have hv2 : valV ((kOf k, V.ref c) :: kvT m ls) (kOf key) = none := hv
    by_cases hk : k = key
    · subst hk
      rw [valV_pos rfl] at hv2
      cases hv2
    · have hk2 : ¬ kOf k = kOf key := fun z => hk (kOf_inj z)
      rw [valV_neg hk2] at hv2
      unfold tellT
      rw [if_neg hk, tell_new e o (by simpa using h) hv2]
      rfl
theorem kvT_snoc : ∀ {m : Tb α} {ls : List Addr} (en : (Str × Int) × List (Row α)) (l : Addr), m.length = ls.length → kvT (m ++ [en]) (ls ++ [l]) = kvT m ls ++ [(kOf en.1, .ref l)]
  | [], [], _, _, _ => rfl
  | [], _ :: _, _, _, h => by simp at h
  | _ :: _, [], _, _, h => by simp at h
  | x :: m, c :: ls, en, l, h => by
    show (kOf x.1, V.ref c) :: kvT (m ++ [en]) (ls ++ [l]) = _
    rw [kvT_snoc en l (by simpa using h)]
    rfl
end
section
variable {P : Program} {w : World} {K : PySem.W.Frag} {mg : Str → Option Value} {base : Heap} {f : Addr} {fd : FuncData}
/-! ### Book(ranks) -/
def spBInit (K : PySem.W.Frag) : Sp := fun vs H Q _ => ∃ (p r dx : Addr) (R : List (Str × Int)), vs = [.ref p, .ref r] ∧ H p = some (.ins (cB K) dx []) ∧ H r = some (.dK (kvR R)) ∧ RkOk R ∧
  ∀ (b : Bk) (H' : Hp), b.p = p → b.R = R → b.M = [] → b.L = [] → b.tl = none → b.lsM = [] → b.lsL = [] → H b.dR = none → H b.dM = none → H b.dL = none → Kp (· = p) H H' → BookAt K H' b → Q .non H'
theorem scBInit : FnScope ["self", "ranks"] ["self", "ranks"] (defScope sBInit) := ⟨rfl, rfl, rfl, by decide +kernel, rfl, by decide +kernel, by decide +kernel⟩
theorem okBInit (F : FnP K "__init__" "Book.__init__" sBInit [] f fd) (T : Tx K mg) (U : Use P w K mg base 3 "want_ranks" ["thing"] [] spWantRanks) : FnOk P w K mg base CX0 4 f fd ["self", "ranks"] (spBInit K) := by
  refine F.ok scBInit (fun vs H Q E h => ?_) (fun cdv A outer s H vs Q E hr h => ?_)
  · obtain ⟨p, r, dx, R, rfl, _⟩ := h; rfl
  · obtain ⟨p, r, dx, R, rfl, hp, hR, ok, q⟩ := h
    refine ⟨_, PSs.nox (pss_cons (ps_expr (pe_use U hr (by rfl) (pa_cons (pv 1) pa_nil)))
      (pss_cons (ps_fld (pv 0) (pe_callTy call_dictD (by rfl) T.dict (by decide +kernel) (pa_cons (pv 1) pa_nil)) rfl)
      (pss_cons (ps_fld (pv 0) pe_dnewT rfl)
      (pss_cons (ps_fld (pv 0) pe_dnewT rfl)
      (pss_one (ps_fld (pv 0) pe_non rfl)))))), ?_⟩
    refine ⟨_, rfl, r, R, rfl, hR, ok, fun H1 s1 => ?_⟩
    have hp1 := s1 _ _ hp
    refine ⟨_, rfl, r, kvR R, rfl, Rd.of (s1 _ _ hR), fun dR h1 => ?_⟩
    have n1 : p ≠ dR := ne_of_none hp1 h1
    refine ⟨_, rfl, p, cB K, dx, [], rfl, by rw [upd_ne n1]; exact hp1, T.clB, T.nRanks, by show 0 < 1000; decide, ?_⟩
    intro dM h2
    have n2 : p ≠ dM := fun z => by rw [← z, upd_same] at h2; cases h2
    have n2r : dR ≠ dM := fun z => by rw [← z, upd_ne n1.symm, upd_same] at h2; cases h2
    refine ⟨_, rfl, p, cB K, dx, _, rfl, by rw [upd_ne n2, upd_same], T.clB, T.nMoves, by show 1 < 1000; decide, ?_⟩
    intro dL h3
    have n3 : p ≠ dL := fun z => by rw [← z, upd_same] at h3; cases h3
    have n3m : dM ≠ dL := fun z => by rw [← z, upd_ne n2.symm, upd_same] at h3; cases h3
    have n3r : dR ≠ dL := fun z => by rw [← z, upd_ne n1.symm, upd_ne n2r, upd_ne n1.symm, upd_same] at h3; cases h3
    refine ⟨_, rfl, p, cB K, dx, _, rfl, by rw [upd_ne n3, upd_same], T.clB, T.nLands, Nat.lt_of_le_of_lt (length_putF _ _ _) (Nat.lt_of_le_of_lt (Nat.succ_le_succ (length_putF _ _ _)) (by decide)), ?_⟩
    refine ⟨_, rfl, p, cB K, dx, _, rfl, upd_same, T.clB, T.nLast, Nat.lt_of_le_of_lt (length_putF _ _ _) (Nat.lt_of_le_of_lt (Nat.succ_le_succ (length_putF _ _ _)) (Nat.lt_of_le_of_lt (Nat.succ_le_succ (Nat.succ_le_succ (length_putF _ _ _))) (by decide))), ?_⟩
    have fr : ∀ c, c ≠ p → c ≠ dL → c ≠ dM → c ≠ dR → ∀ o1 o2 o3 o4 o5 o6 o7, (L2.upd (L2.upd (L2.upd (L2.upd (L2.upd (L2.upd (L2.upd H1 dR o1) p o2) dM o3) p o4) dL o5) p o6) p o7) c = H1 c := fun c c1 c2 c3 c4 o1 o2 o3 o4 o5 o6 o7 => by
      rw [upd_ne c1, upd_ne c1, upd_ne c2, upd_ne c1, upd_ne c3, upd_ne c1, upd_ne c4]
    have free1 : ∀ c, c ≠ p → ∀ o1 o2, (L2.upd (L2.upd H1 dR o1) p o2) c = none → H1 c = none := fun c c1 o1 o2 h => by
      rw [upd_ne c1] at h
      by_cases c4 : c = dR
      · rw [c4, upd_same] at h; cases h
      · rw [upd_ne c4] at h; exact h
    have fM : H1 dM = none := free1 dM n2.symm _ _ h2
    have fL : H1 dL = none := free1 dL n3.symm _ _ (by rw [upd_ne n3.symm, upd_ne n3m.symm] at h3; exact h3)
    refine q ⟨p, dR, dM, dL, [], [], R, [], [], none⟩ _ rfl rfl rfl rfl rfl rfl rfl (s1.free h1) (s1.free fM) (s1.free fL) (fun c o h hn => ?_) ⟨⟨dx, upd_same⟩, ?_, ⟨?_, .nil⟩, ⟨?_, .nil⟩, n3m⟩
    · have h' := s1 c o h
      rw [fr c hn (ne_of_none h' fL) (ne_of_none h' fM) (ne_of_none h' h1)]
      exact h'
    · rw [upd_ne n1.symm, upd_ne n1.symm, upd_ne n3r, upd_ne n1.symm, upd_ne n2r, upd_ne n1.symm, upd_same]
    · rw [upd_ne n2.symm, upd_ne n2.symm, upd_ne n3m, upd_ne n2.symm, upd_same]
      rfl
    · rw [upd_ne n3.symm, upd_ne n3.symm, upd_same]
      rfl
/-! ### ranks, want_keeper, want_not_early -/
def spBRanks (K : PySem.W.Frag) : Sp := fun vs H Q _ => ∃ b : Bk, vs = [.ref b.p] ∧ BookAt K H b ∧ ∀ d, H d = none → Q (.ref d) (L2.upd H d (.dK (kvR b.R)))
theorem scBRanks : FnScope ["self"] ["self"] (defScope sBRanks) := ⟨rfl, rfl, rfl, by decide +kernel, rfl, by decide +kernel, by decide +kernel⟩
theorem okBRanks (F : FnP K "ranks" "Book.ranks" sBRanks [] f fd) (T : Tx K mg) : FnOk P w K mg base CX0 1 f fd ["self"] (spBRanks K) := by
  refine F.ok scBRanks (fun vs H Q E h => ?_) (fun cdv A outer s H vs Q E hr h => ?_)
  · obtain ⟨b, rfl, _⟩ := h; rfl
  · obtain ⟨b, rfl, B, q⟩ := h
    obtain ⟨dx, hp⟩ := B.ob
    refine ⟨_, PSs.nox (pss_one (ps_ret (pe_callTy call_dictD (by rfl) T.dict (by decide +kernel) (pa_cons (pe_fld (pv 0) rfl) pa_nil)))), ?_⟩
    exact ⟨_, rfl, b.p, cB K, dx, _, _, rfl, hp, T.clB, T.nRanks, fldsB_ranks _ _ _ _, b.dR, _, rfl, Rd.of B.rk, q⟩
theorem kvR_in {R : List (Str × Int)} {n : Str} (h : n ∈ R.map (·.1)) : (valV (kvR R) (.inr n)).isSome = true := by
  rw [← valV_any]
  obtain ⟨e, he, rfl⟩ := List.mem_map.mp h
  exact List.any_eq_true.mpr ⟨(.inr e.1, .int e.2), List.mem_map.mpr ⟨e, he, rfl⟩, decide_eq_true rfl⟩
def spBWantKeeper (K : PySem.W.Frag) : Sp := fun vs H Q _ => ∃ (b : Bk) (n : Str), vs = [.ref b.p, .str n] ∧ BookAt K H b ∧ n ∈ b.R.map (·.1) ∧ Q .non H
theorem scBWantKeeper : FnScope ["self", "thing"] ["self", "thing"] (defScope sBWantKeeper) := ⟨rfl, rfl, rfl, by decide +kernel, rfl, by decide +kernel, by decide +kernel⟩
theorem okBWantKeeper (F : FnP K "want_keeper" "Book.want_keeper" sBWantKeeper [] f fd) (T : Tx K mg) : FnOk P w K mg base CX0 1 f fd ["self", "thing"] (spBWantKeeper K) := by
  refine F.ok scBWantKeeper (fun vs H Q E h => ?_) (fun cdv A outer s H vs Q E hr h => ?_)
  · obtain ⟨b, n, rfl, _⟩ := h; rfl
  · obtain ⟨b, n, rfl, B, hn, q⟩ := h
    obtain ⟨dx, hp⟩ := B.ob
    refine ⟨_, PSs.nox (pss_one (ps_if (PW.pt (pw_or (pt_not (pt_val (pe_callB call_isi (by rfl) T.isinstance (by decide +kernel) (pa_cons (pv 1) (pa_cons (pe_bltn (v := .ty "str") (by rfl) T.str (by decide +kernel) rfl) pa_nil)))))
      (pw_or1 (pt_cmp (pc_dnotin (hu_of hr) (pv 1) (pe_fld (pv 0) rfl)))))) (pss_one ps_never) pss_nil)), ?_⟩
    refine ⟨_, rfl, .str n, .ty "str", .type "str", _, true, rfl, .ty "str", .base (.str n), kit_ty (by decide +kernel), true, rfl, ?_⟩
    refine iteF ⟨_, rfl, _, rfl, b.p, cB K, dx, _, _, rfl, hp, T.clB, T.nRanks, fldsB_ranks _ _ _ _, b.dR, _, rfl, DGet.k (k := .inr n) B.rk, _, rfl, ?_⟩
    rw [kvR_in hn]
    exact iteF q
def tlOk (tl : Option Int) (e : Int) : Prop := match tl with
  | none => True
  | some t => t ≤ e
def spBWantNotEarly (K : PySem.W.Frag) : Sp := fun vs H Q _ => ∃ (b : Bk) (e : Int), vs = [.ref b.p, .int e] ∧ BookAt K H b ∧ tlOk b.tl e ∧ Q .non H
theorem scBWantNotEarly : FnScope ["self", "known"] ["self", "known"] (defScope sBWantNotEarly) := ⟨rfl, rfl, rfl, by decide +kernel, rfl, by decide +kernel, by decide +kernel⟩
theorem okBWantNotEarly (F : FnP K "want_not_early" "Book.want_not_early" sBWantNotEarly [] f fd) (T : Tx K mg) : FnOk P w K mg base CX0 1 f fd ["self", "known"] (spBWantNotEarly K) := by
  refine F.ok scBWantNotEarly (fun vs H Q E h => ?_) (fun cdv A outer s H vs Q E hr h => ?_)
  · obtain ⟨b, n, rfl, _⟩ := h; rfl
  · obtain ⟨b, e, rfl, B, hn, q⟩ := h
    obtain ⟨dx, hp⟩ := B.ob
    refine ⟨_, PSs.nox (pss_one (ps_if (PW.pt (pw_and (pt_cmpR op_notN (pe_fld (pv 0) rfl) pe_non (nomark _)) (pw_and1 (pt_cmpR op_lt (pv 1) (pe_fld (pv 0) rfl) (nomark _))))) (pss_one ps_never) pss_nil)), ?_⟩
    refine ⟨_, rfl, b.p, cB K, dx, _, _, rfl, hp, T.clB, T.nLast, fldsB_last _ _ _ _, rfl, _, rfl, ?_⟩
    cases ht : b.tl with
    | none => exact iteF q
    | some t =>
      rw [ht] at hn
      refine iteT ⟨_, rfl, _, rfl, b.p, cB K, dx, _, _, rfl, hp, T.clB, T.nLast, fldsB_last _ _ _ _, e, t, rfl, by rw [ht]; rfl, _, rfl, ?_⟩
      exact ifF (by have h2 : t ≤ e := hn; omega) q
end
end LT
namespace LT
open PySem PySem.Spec PyProof.Rows L2
section
variable {α : Type} {v : α → V}
theorem tab_there {H2 : Hp} {d l : Addr} {ls : List Addr} {m : Tb α} {key : Str × Int} (e : Int) (o : Option α) (t : TbAt v H2 d ls m) (nd : ls.Nodup) (hv : valV (kvT m ls) (kOf key) = some (.ref l)) :
    l ∈ ls ∧ ∃ rows, RowsAt v H2 l rows ∧ (∃ en ∈ m, en.2 = rows) ∧ ∀ H3, Kp (· = l) H2 H3 → RowsAt v H3 l (putDown rows e o) → TbAt v H3 d ls (tellT m key e o) := by
  obtain ⟨h1, en, h2, h3, h4, h5⟩ := tell_there e o t.rs hv nd
  refine ⟨h1, en.2, h3, ⟨en, h2, rfl⟩, fun H3 kp r => ⟨?_, ?_⟩⟩
  · rw [h4]
    refine kp _ _ t.dt fun z => ?_
    obtain ⟨ts, q, _⟩ := h3
    rw [← z, t.dt] at q
    cases q
  · refine h5 H3 r fun l' rs hm hn q => q.keep (fun xs e => kp _ _ e hn) fun c x e => kp _ _ e fun z => ?_
    obtain ⟨ts, q, _⟩ := h3
    rw [← z, e] at q
    cases q
theorem tab_new {H2 : Hp} {d nl : Addr} {ls : List Addr} {m : Tb α} {key : Str × Int} (e : Int) (o : Option α) (t : TbAt v H2 d ls m) (hv : valV (kvT m ls) (kOf key) = none) (hn : nl ∉ ls) (hl : H2 nl = some (.lst [])) :
    ∀ H3, Kp (· = nl) (L2.upd H2 d (.dT (putK (kvT m ls) (kOf key) (.ref nl)))) H3 → RowsAt v H3 nl (putDown [] e o) → TbAt v H3 d (ls ++ [nl]) (tellT m key e o) := by
  intro H3 kp r
  have lm := Paired.length t.rs
  have nd : d ≠ nl := ne_of t.dt hl (by intro z; cases z)
  rw [tell_new e o lm hv]
  refine ⟨?_, paired_append ?_ (.cons r .nil)⟩
  · rw [kvT_snoc _ _ lm, ← putK_new (.ref nl) hv]
    exact kp _ _ upd_same nd
  · have go : ∀ (m : Tb α) (ls : List Addr), nl ∉ ls → Paired (fun (e : (Str × Int) × List (Row α)) (l : Addr) => RowsAt v H2 l e.2) m ls → Paired (fun (e : (Str × Int) × List (Row α)) (l : Addr) => RowsAt v H3 l e.2) m ls := by
      intro m ls hn p
      induction p with
      | nil => exact .nil
      | @cons e l m ls r _ ih =>
        rw [List.mem_cons, not_or] at hn
        refine .cons (r.keep (fun xs e => ?_) fun c x e => ?_) (ih hn.2)
        · exact kp _ _ (by rw [upd_ne (ne_of e t.dt (by intro z; cases z))]; exact e) fun z => hn.1 z.symm
        · exact kp _ _ (by rw [upd_ne (ne_of e t.dt (by intro z; cases z))]; exact e) (ne_of e hl (by intro z; cases z))
    exact go m ls hn t.rs
end
theorem valV_at {κ : Type} [DecidableEq κ] {kvs : List (κ × V)} {k : κ} {x : V} (h : valV kvs k = some x) : ∃ i : Nat, kvs[i]? = some (k, x) := by
  unfold valV at h
  cases hf : kvs.find? fun kv => decide (kv.1 = k) with
  | none => rw [hf] at h; cases h
  | some p =>
    rw [hf] at h
    have hk : p.1 = k := by simpa using List.find?_some hf
    have hx : p.2 = x := Option.some.inj h
    obtain ⟨i, hi⟩ := List.mem_iff_getElem?.mp (List.mem_of_find?_eq_some hf)
    exact ⟨i, by rw [hi, ← hk, ← hx]⟩
theorem valV_ref {α : Type} {m : Tb α} {ls : List Addr} {k : List L2.Key} {x : V} (h : valV (kvT m ls) k = some x) : ∃ (_ : Nat) (l : Addr), x = .ref l := by
  obtain ⟨i, hi⟩ : ∃ i, (kvT m ls)[i]? = some (k, x) := valV_at h
  obtain ⟨e, l, _, _, _, q⟩ := kvT_at hi
  exact ⟨i, l, q⟩
/-- b became b', told on e -/
structure ToldTo (K : PySem.W.Frag) (H : Hp) (b b' : Bk) (e : Int) (H' : Hp) : Prop where
  p : b'.p = b.p
  dR : b'.dR = b.dR
  R : b'.R = b.R
  tl : b'.tl = some e
  nd : (b'.lsM ++ b'.lsL).Nodup
  new : ∀ l, l ∈ b'.lsM ++ b'.lsL → l ∈ b.lsM ++ b.lsL ∨ H l = none
  at_ : BookAt K H' b'
  kp : Kp (fun c => c = b.p ∨ c = b.dM ∨ c = b.dL ∨ c ∈ b.lsM ++ b.lsL) H H'
theorem nodup_snocL {l : Addr} {as bs : List Addr} (h : (as ++ bs).Nodup) (hl : l ∉ as ++ bs) : ((as ++ [l]) ++ bs).Nodup := by
  rw [List.append_assoc]
  refine ((List.perm_middle (l₁ := as) (a := l) (l₂ := bs)).nodup_iff).mpr ?_
  exact List.nodup_cons.mpr ⟨hl, h⟩
theorem nodup_snocR {l : Addr} {as bs : List Addr} (h : (as ++ bs).Nodup) (hl : l ∉ as ++ bs) : (as ++ (bs ++ [l])).Nodup := by
  rw [← List.append_assoc]
  refine ((List.perm_append_singleton l (as ++ bs)).nodup_iff).mpr ?_
  exact List.nodup_cons.mpr ⟨hl, h⟩
section
variable {K : PySem.W.Frag}
theorem BookAt.lsOk {H : Hp} {b : Bk} (B : BookAt K H b) : ∀ l ∈ b.lsM ++ b.lsL, ∃ xs, H l = some (.lst xs) := by
  have go : ∀ {α : Type} {v : α → V} {m : Tb α} {ls : List Addr}, Paired (fun (e : (Str × Int) × List (Row α)) (l : Addr) => RowsAt v H l e.2) m ls → ∀ l ∈ ls, ∃ xs, H l = some (.lst xs) := by
    intro α v m ls p
    induction p with
    | nil => intro l h; cases h
    | cons r _ ih =>
      intro l h
      rcases List.mem_cons.mp h with rfl | h
      · obtain ⟨ts, q, _⟩ := r
        exact ⟨_, q⟩
      · exact ih l h
  intro l h
  rcases List.mem_append.mp h with h | h
  · exact go B.mv.rs l h
  · exact go B.ld.rs l h

theorem toldM {H H2 H3 : Hp} {b b' : Bk} {e : Int} (B2 : BookAt K H2 b) (s : Same H H2) (B : BookAt K H b) (l : Addr) (hl : l ∈ b.lsM ∨ H l = none) (hl2 : ∃ xs, H2 l = some (.lst xs)) (kp : Kp (fun c => c = b.dM ∨ c = l) H2 H3) (hll : l ∉ b.lsL)
    (ep : b'.p = b.p) (er : b'.dR = b.dR) (em : b'.dM = b.dM) (el : b'.dL = b.dL) (eR : b'.R = b.R) (eL : b'.L = b.L) (et : b'.tl = some e) (els : b'.lsL = b.lsL) (t : TbAt V.str H3 b.dM b'.lsM b'.M) (nd : (b'.lsM ++ b'.lsL).Nodup)
    (new : ∀ l, l ∈ b'.lsM → l ∈ b.lsM ∨ H l = none) : ∃ dx, H3 b.p = some (.ins (cB K) dx (fldsB b.dR b.dM b.dL (vK b.tl))) ∧ ToldTo K H b b' e (L2.upd H3 b.p (.ins (cB K) dx (fldsB b.dR b.dM b.dL (.int e)))) := by
  obtain ⟨dx, hp⟩ := B2.ob
  obtain ⟨xs, hx⟩ := hl2
  have n1 : b.p ≠ b.dM := ne_of hp B2.mv.dt (by intro z; cases z)
  have n2 : b.p ≠ l := ne_of hp hx (by intro z; cases z)
  have hp3 := kp _ _ hp (by rintro (z | z); exact n1 z; exact n2 z)
  have tupk : ∀ t x, H3 t = some (.tup x) → ¬ t = b.p := fun t x e => ne_of e hp3 (by intro z; cases z)
  have lsk : ∀ l' ∈ b.lsM ++ b.lsL, l' ≠ b.p := fun l' h => by
    obtain ⟨ys, q⟩ := B2.lsOk l' h
    exact ne_of q hp (by intro z; cases z)
  have kpu : ∀ o, Kp (· = b.p) H3 (L2.upd H3 b.p o) := fun o => kp_upd rfl
  refine ⟨dx, hp3, ep, er, eR, et, nd, fun l' h => ?_, ⟨⟨dx, ?_⟩, ?_, ?_, ?_, by rw [em, el]; exact B2.ml⟩, fun c o h hn => ?_⟩
  · rcases List.mem_append.mp h with h | h
    · exact (new l' h).imp (fun q => List.mem_append.mpr (.inl q)) id
    · rw [els] at h
      exact .inl (List.mem_append.mpr (.inr h))
  · rw [ep, er, em, el, et, upd_same]
    rfl
  · rw [er, eR, upd_ne (ne_of B2.rk hp (by intro z; cases z))]
    exact kp _ _ B2.rk (by rintro (z | z); exact ne_of B2.rk B2.mv.dt (by intro z; cases z) z; exact ne_of B2.rk hx (by intro z; cases z) z)
  · rw [em]
    refine t.keep (kpu _) n1.symm (fun l' h => ?_) tupk
    rcases new l' h with q | q
    · exact lsk l' (List.mem_append.mpr (.inl q))
    · obtain ⟨dx', hp0⟩ := B.ob
      exact (ne_of_none hp0 q).symm
  · rw [el, els, eL]
    have t1 : TbAt V.int H3 b.dL b.lsL b.L := by
      refine B2.ld.keep kp ?_ (fun l' h => ?_) fun t x e => ?_
      · rintro (z | z)
        · exact B2.ml z.symm
        · exact ne_of B2.ld.dt hx (by intro z; cases z) z
      · rintro (z | z)
        · obtain ⟨ys, q⟩ := B2.lsOk l' (List.mem_append.mpr (.inr h))
          exact ne_of q B2.mv.dt (by intro z; cases z) z
        · exact hll (z ▸ h)
      · rintro (z | z)
        · exact ne_of e B2.mv.dt (by intro z; cases z) z
        · exact ne_of e hx (by intro z; cases z) z
    exact t1.keep (kpu _) (ne_of t1.dt hp3 (by intro z; cases z)) (fun l' h => lsk l' (List.mem_append.mpr (.inr h))) tupk
  · have a1 : ¬ (c = b.dM ∨ c = l) := by
      rintro (z | z)
      · exact hn (.inr (.inl z))
      · rcases hl with q | q
        · exact hn (.inr (.inr (.inr (z ▸ List.mem_append.mpr (.inl q)))))
        · rw [z, q] at h
          cases h
    rw [upd_ne fun z => hn (.inl z)]
    exact kp _ _ (s _ _ h) a1
end
section
variable {P : Program} {w : World} {K : PySem.W.Frag} {mg : Str → Option Value} {base : Heap} {f : Addr} {fd : FuncData}
/-! ### tell -/
def spTell (K : PySem.W.Frag) : Sp := fun vs H Q _ => ∃ (b : Bk) (e d : Int) (n : Str) (o : Option Str), vs = [.ref b.p, .int e, .str n, .int d, vO V.str o] ∧ BookAt K H b ∧ (b.lsM ++ b.lsL).Nodup ∧ b.M.length ≤ 60 ∧ (∀ en ∈ b.M, en.2.length ≤ 60) ∧
  0 ≤ e ∧ 0 ≤ d ∧ n ∈ b.R.map (·.1) ∧ (∀ z, o = some z → IsPl z) ∧ tlOk b.tl e ∧ ∀ b' H', ToldTo K H b b' e H' → b'.M = tellT b.M (n, d) e o → b'.L = b.L → Q .non H'
theorem scTell : FnScope ["self", "known", "keeper", "day", "place"] ["self", "known", "keeper", "day", "place"] (defScope sBTell) := ⟨rfl, rfl, rfl, by decide +kernel, rfl, by decide +kernel, by decide +kernel⟩
theorem fB_wk (dR dM dL : Addr) (tl : V) : (fldsB dR dM dL tl).lookup ("want_keeper" : Str) = none := fldsB_no _ _ _ _ (by decide +kernel) (by decide +kernel) (by decide +kernel) (by decide +kernel)
theorem fB_ne (dR dM dL : Addr) (tl : V) : (fldsB dR dM dL tl).lookup ("want_not_early" : Str) = none := fldsB_no _ _ _ _ (by decide +kernel) (by decide +kernel) (by decide +kernel) (by decide +kernel)
theorem okTell (F : FnP K "tell" "Book.tell" sBTell [] f fd) (T : Tx K mg) (U1 : Use P w K mg base 2 "want_day" ["thing"] [] spWantDay) (U2 : UseM P w K mg base 1 (cB K) "want_keeper" ["self", "thing"] [] (spBWantKeeper K))
    (U3 : Use P w K mg base 2 "is_place" ["thing"] [] spIsPlace) (U4 : UseM P w K mg base 1 (cB K) "want_not_early" ["self", "known"] [] (spBWantNotEarly K)) (U5 : Use P w K mg base 1 "put_down" ["rows", "known", "worth"] [] spPutDown) :
    FnOk P w K mg base CX0 3 f fd ["self", "known", "keeper", "day", "place"] (spTell K) := by
  refine F.ok scTell (fun vs H Q E h => ?_) (fun cdv A outer s H vs Q E hr h => ?_)
  · obtain ⟨b, e, d, n, o, rfl, _⟩ := h; rfl
  · obtain ⟨b, e, d, n, o, rfl, B, nd, lm, lr, e0, d0, hn, ho, ht, q⟩ := h
    refine ⟨_, PSs.nox (pss_cons (ps_expr (pe_use U1 hr (by rfl) (pa_cons (pv 1) pa_nil)))
      (pss_cons (ps_expr (pe_use U1 hr (by rfl) (pa_cons (pv 3) pa_nil)))
      (pss_cons (ps_expr (pe_useM (pv 0) T.clB U2 (hr.mono (by decide)) (pa_cons (pv 2) pa_nil)))
      (pss_cons (ps_if (PW.pt (pw_and (pt_cmpR op_notN (pv 4) pe_non (nomark _)) (pw_and1 (pt_not (pt_val (pe_use U3 hr (by rfl) (pa_cons (pv 4) pa_nil))))))) (pss_one ps_never) pss_nil)
      (pss_cons (ps_expr (pe_useM (pv 0) T.clB U4 (hr.mono (by decide)) (pa_cons (pv 1) pa_nil)))
      (pss_cons (ps_expr (pe_use U5 (hr.mono (by decide)) (by rfl) (pa_cons (pe_bm PySem.F.plainAttrs_dict PySem.F.slot_dict_setdefault PySem.F.type_dict_setdefault (mt_setdT (Nat.lt_of_le_of_lt (Nat.add_le_add_left (by decide) _) hr.units)) (pe_fld (pv 0) rfl) (pa_cons (pe_tup (pa_cons (pv 2) (pa_cons (pv 3) pa_nil))) (pa_cons (pe_lst pa_nil) pa_nil)))
          (pa_cons (pv 1) (pa_cons (pv 4) pa_nil)))))
      (pss_one (ps_fld (pv 0) (pv 1) rfl)))))))), ?_⟩
    obtain ⟨dx, hp⟩ := B.ob
    refine ⟨_, rfl, e, rfl, e0, ?_⟩
    refine ⟨_, rfl, d, rfl, d0, ?_⟩
    refine ⟨_, rfl, b.p, dx, _, rfl, hp, fB_wk _ _ _ _, _, rfl, b, n, rfl, B, hn, ?_⟩
    refine ⟨_, rfl, rfl, _, rfl, ?_⟩
    -- whether a place is told or none: the heap grew
    cases o
    · refine iteF ?_
      obtain ⟨H1, e1⟩ : ∃ H1, H1 = H := ⟨H, rfl⟩
      have s1 : Same H H1 := by rw [e1]; exact Same.refl H
      rw [← e1]
      clear e1
      refine ⟨_, rfl, b.p, dx, _, rfl, s1 _ _ hp, fB_ne _ _ _ _, _, rfl, b, e, rfl, B.same s1, ht, ?_⟩
      refine ⟨_, rfl, b.p, cB K, dx, _, _, rfl, s1 _ _ hp, T.clB, T.nMoves, fldsB_moves _ _ _ _, .inr (.inr (.inl ⟨rfl, .inr ⟨_, (B.same s1).mv.dt⟩⟩)), _, rfl, _, rfl, Nat.le_of_lt (sz63 (by show 2 ≤ 64; decide)), fun t ht0 => ?_⟩
      refine ⟨by decide, fun nl hnl => ?_⟩
      have s2 : Same H1 (L2.upd (L2.upd H1 t (.tup [.str n, .int d])) nl (.lst [])) := (same_upd ht0).trans (same_upd hnl)
      have nt : t ≠ nl := fun z => by rw [← z, upd_same] at hnl; cases hnl
      have ht2 : (L2.upd (L2.upd H1 t (.tup [.str n, .int d])) nl (.lst [])) t = some (.tup ((kOf (n, d)).map kV)) := by rw [upd_ne nt, upd_same]; rfl
      have hl2 : (L2.upd (L2.upd H1 t (.tup [.str n, .int d])) nl (.lst [])) nl = some (.lst []) := upd_same
      have fl : H nl = none := s1.free (by rw [upd_ne nt.symm] at hnl; exact hnl)
      generalize L2.upd (L2.upd H1 t (.tup [.str n, .int d])) nl (.lst []) = H2 at *
      have s12 : Same H H2 := s1.trans s2
      have B2 := B.same s12
      have nnl : nl ∉ b.lsM ++ b.lsL := fun h => by
        obtain ⟨xs, h2⟩ := B.lsOk nl h
        rw [fl] at h2
        cases h2
      refine ⟨b.dM, t, _, kOf (n, d), .ref nl, rfl, rfl, B2.mv.dt, ht2, by rw [kvT_len (Paired.length B.mv.rs)]; exact sz63 (by omega), fun v hv => ?_, fun hv => ?_⟩
      · obtain ⟨l, rfl⟩ : ∃ l, v = .ref l := by
          obtain ⟨i, hi⟩ := valV_ref hv
          exact hi
        obtain ⟨hl, rows, hr1, ⟨en, hen, ern⟩, fin⟩ := tab_there e (none : Option Str) B2.mv (List.nodup_append.mp nd).1 hv
        refine ⟨_, rfl, _, rfl, Str, V.str, l, rows, e, (none : Option Str), rfl, hr1, by rw [← ern]; exact lr en hen, fun H3 kp r3 => ?_⟩
        obtain ⟨ts, hts, _⟩ := hr1
        obtain ⟨dx3, hp3, td⟩ := toldM (e := e) (b' := { b with M := tellT b.M (n, d) e (none : Option Str), tl := some e }) B2 s12 B l (.inl hl) ⟨_, hts⟩ (kp.mono fun c => .inr) (fun z => (List.nodup_append.mp nd).2.2 l hl l z rfl) rfl rfl rfl rfl rfl rfl rfl rfl (fin H3 kp r3) nd (fun _ => .inl)
        refine ⟨_, rfl, _, rfl, b.p, cB K, dx3, _, rfl, hp3, T.clB, T.nLast, by rw [fldsB_eq]; show 4 < 1000; decide, ?_⟩
        rw [fldsB_put]
        exact q _ _ td rfl rfl
      · have kp0 : Kp (fun c => c = b.dM ∨ c = nl) H2 (L2.upd H2 b.dM (.dT (putK (kvT b.M b.lsM) (kOf (n, d)) (.ref nl)))) := kp_upd (.inl rfl)
        have nd2 : b.dM ≠ nl := ne_of B2.mv.dt hl2 (by intro z; cases z)
        refine ⟨_, rfl, _, rfl, Str, V.str, nl, [], e, (none : Option Str), rfl, ⟨[], by rw [upd_ne nd2.symm]; exact hl2, .nil⟩, Nat.zero_le _, fun H3 kp r3 => ?_⟩
        obtain ⟨dx3, hp3, td⟩ := toldM (e := e) (b' := { b with M := tellT b.M (n, d) e (none : Option Str), tl := some e, lsM := b.lsM ++ [nl] }) B2 s12 B nl (.inr fl) ⟨_, hl2⟩ (kp0.trans (kp.mono fun c => .inr)) (fun z => nnl (List.mem_append.mpr (.inr z))) rfl rfl rfl rfl rfl rfl rfl rfl
          (tab_new e (none : Option Str) B2.mv hv (fun z => nnl (List.mem_append.mpr (.inl z))) hl2 H3 kp r3) (nodup_snocL nd nnl) (fun l h => by
            rcases List.mem_append.mp h with h | h
            · exact .inl h
            · exact .inr (List.mem_singleton.mp h ▸ fl))
        refine ⟨_, rfl, _, rfl, b.p, cB K, dx3, _, rfl, hp3, T.clB, T.nLast, by rw [fldsB_eq]; show 4 < 1000; decide, ?_⟩
        rw [fldsB_put]
        exact q _ _ td rfl rfl
    · rename_i z
      refine iteT ⟨_, rfl, z, rfl, ho z rfl, fun H1 s1 => ⟨true, rfl, ?_⟩⟩
      refine iteF ?_
      refine ⟨_, rfl, b.p, dx, _, rfl, s1 _ _ hp, fB_ne _ _ _ _, _, rfl, b, e, rfl, B.same s1, ht, ?_⟩
      refine ⟨_, rfl, b.p, cB K, dx, _, _, rfl, s1 _ _ hp, T.clB, T.nMoves, fldsB_moves _ _ _ _, .inr (.inr (.inl ⟨rfl, .inr ⟨_, (B.same s1).mv.dt⟩⟩)), _, rfl, _, rfl, Nat.le_of_lt (sz63 (by show 2 ≤ 64; decide)), fun t ht0 => ?_⟩
      refine ⟨by decide, fun nl hnl => ?_⟩
      have s2 : Same H1 (L2.upd (L2.upd H1 t (.tup [.str n, .int d])) nl (.lst [])) := (same_upd ht0).trans (same_upd hnl)
      have nt : t ≠ nl := fun z => by rw [← z, upd_same] at hnl; cases hnl
      have ht2 : (L2.upd (L2.upd H1 t (.tup [.str n, .int d])) nl (.lst [])) t = some (.tup ((kOf (n, d)).map kV)) := by rw [upd_ne nt, upd_same]; rfl
      have hl2 : (L2.upd (L2.upd H1 t (.tup [.str n, .int d])) nl (.lst [])) nl = some (.lst []) := upd_same
      have fl : H nl = none := s1.free (by rw [upd_ne nt.symm] at hnl; exact hnl)
      generalize L2.upd (L2.upd H1 t (.tup [.str n, .int d])) nl (.lst []) = H2 at *
      have s12 : Same H H2 := s1.trans s2
      have B2 := B.same s12
      have nnl : nl ∉ b.lsM ++ b.lsL := fun h => by
        obtain ⟨xs, h2⟩ := B.lsOk nl h
        rw [fl] at h2
        cases h2
      refine ⟨b.dM, t, _, kOf (n, d), .ref nl, rfl, rfl, B2.mv.dt, ht2, by rw [kvT_len (Paired.length B.mv.rs)]; exact sz63 (by omega), fun v hv => ?_, fun hv => ?_⟩
      · obtain ⟨l, rfl⟩ : ∃ l, v = .ref l := by
          obtain ⟨i, hi⟩ := valV_ref hv
          exact hi
        obtain ⟨hl, rows, hr1, ⟨en, hen, ern⟩, fin⟩ := tab_there e (some z) B2.mv (List.nodup_append.mp nd).1 hv
        refine ⟨_, rfl, _, rfl, Str, V.str, l, rows, e, (some z), rfl, hr1, by rw [← ern]; exact lr en hen, fun H3 kp r3 => ?_⟩
        obtain ⟨ts, hts, _⟩ := hr1
        obtain ⟨dx3, hp3, td⟩ := toldM (e := e) (b' := { b with M := tellT b.M (n, d) e (some z), tl := some e }) B2 s12 B l (.inl hl) ⟨_, hts⟩ (kp.mono fun c => .inr) (fun z => (List.nodup_append.mp nd).2.2 l hl l z rfl) rfl rfl rfl rfl rfl rfl rfl rfl (fin H3 kp r3) nd (fun _ => .inl)
        refine ⟨_, rfl, _, rfl, b.p, cB K, dx3, _, rfl, hp3, T.clB, T.nLast, by rw [fldsB_eq]; show 4 < 1000; decide, ?_⟩
        rw [fldsB_put]
        exact q _ _ td rfl rfl
      · have kp0 : Kp (fun c => c = b.dM ∨ c = nl) H2 (L2.upd H2 b.dM (.dT (putK (kvT b.M b.lsM) (kOf (n, d)) (.ref nl)))) := kp_upd (.inl rfl)
        have nd2 : b.dM ≠ nl := ne_of B2.mv.dt hl2 (by intro z; cases z)
        refine ⟨_, rfl, _, rfl, Str, V.str, nl, [], e, (some z), rfl, ⟨[], by rw [upd_ne nd2.symm]; exact hl2, .nil⟩, Nat.zero_le _, fun H3 kp r3 => ?_⟩
        obtain ⟨dx3, hp3, td⟩ := toldM (e := e) (b' := { b with M := tellT b.M (n, d) e (some z), tl := some e, lsM := b.lsM ++ [nl] }) B2 s12 B nl (.inr fl) ⟨_, hl2⟩ (kp0.trans (kp.mono fun c => .inr)) (fun z => nnl (List.mem_append.mpr (.inr z))) rfl rfl rfl rfl rfl rfl rfl rfl
          (tab_new e (some z) B2.mv hv (fun z => nnl (List.mem_append.mpr (.inl z))) hl2 H3 kp r3) (nodup_snocL nd nnl) (fun l h => by
            rcases List.mem_append.mp h with h | h
            · exact .inl h
            · exact .inr (List.mem_singleton.mp h ▸ fl))
        refine ⟨_, rfl, _, rfl, b.p, cB K, dx3, _, rfl, hp3, T.clB, T.nLast, by rw [fldsB_eq]; show 4 < 1000; decide, ?_⟩
        rw [fldsB_put]
        exact q _ _ td rfl rfl
end
section
variable {K : PySem.W.Frag}
theorem toldL {H H2 H3 : Hp} {b b' : Bk} {e : Int} (B2 : BookAt K H2 b) (s : Same H H2) (B : BookAt K H b) (l : Addr) (hl : l ∈ b.lsL ∨ H l = none) (hl2 : ∃ xs, H2 l = some (.lst xs)) (kp : Kp (fun c => c = b.dL ∨ c = l) H2 H3) (hll : l ∉ b.lsM)
    (ep : b'.p = b.p) (er : b'.dR = b.dR) (em : b'.dM = b.dM) (el : b'.dL = b.dL) (eR : b'.R = b.R) (eL : b'.M = b.M) (et : b'.tl = some e) (els : b'.lsM = b.lsM) (t : TbAt V.int H3 b.dL b'.lsL b'.L) (nd : (b'.lsM ++ b'.lsL).Nodup)
    (new : ∀ l, l ∈ b'.lsL → l ∈ b.lsL ∨ H l = none) : ∃ dx, H3 b.p = some (.ins (cB K) dx (fldsB b.dR b.dM b.dL (vK b.tl))) ∧ ToldTo K H b b' e (L2.upd H3 b.p (.ins (cB K) dx (fldsB b.dR b.dM b.dL (.int e)))) := by
  obtain ⟨dx, hp⟩ := B2.ob
  obtain ⟨xs, hx⟩ := hl2
  have n1 : b.p ≠ b.dL := ne_of hp B2.ld.dt (by intro z; cases z)
  have n2 : b.p ≠ l := ne_of hp hx (by intro z; cases z)
  have hp3 := kp _ _ hp (by rintro (z | z); exact n1 z; exact n2 z)
  have tupk : ∀ t x, H3 t = some (.tup x) → ¬ t = b.p := fun t x e => ne_of e hp3 (by intro z; cases z)
  have lsk : ∀ l' ∈ b.lsM ++ b.lsL, l' ≠ b.p := fun l' h => by
    obtain ⟨ys, q⟩ := B2.lsOk l' h
    exact ne_of q hp (by intro z; cases z)
  have kpu : ∀ o, Kp (· = b.p) H3 (L2.upd H3 b.p o) := fun o => kp_upd rfl
  refine ⟨dx, hp3, ep, er, eR, et, nd, fun l' h => ?_, ⟨⟨dx, ?_⟩, ?_, ?_, ?_, by rw [em, el]; exact B2.ml⟩, fun c o h hn => ?_⟩
  · rcases List.mem_append.mp h with h | h
    · rw [els] at h
      exact .inl (List.mem_append.mpr (.inl h))
    · exact (new l' h).imp (fun q => List.mem_append.mpr (.inr q)) id
  · rw [ep, er, em, el, et, upd_same]
    rfl
  · rw [er, eR, upd_ne (ne_of B2.rk hp (by intro z; cases z))]
    exact kp _ _ B2.rk (by rintro (z | z); exact ne_of B2.rk B2.ld.dt (by intro z; cases z) z; exact ne_of B2.rk hx (by intro z; cases z) z)
  · rw [em, els, eL]
    have t1 : TbAt V.str H3 b.dM b.lsM b.M := by
      refine B2.mv.keep kp ?_ (fun l' h => ?_) fun t x e => ?_
      · rintro (z | z)
        · exact B2.ml z
        · exact ne_of B2.mv.dt hx (by intro z; cases z) z
      · rintro (z | z)
        · obtain ⟨ys, q⟩ := B2.lsOk l' (List.mem_append.mpr (.inl h))
          exact ne_of q B2.ld.dt (by intro z; cases z) z
        · exact hll (z ▸ h)
      · rintro (z | z)
        · exact ne_of e B2.ld.dt (by intro z; cases z) z
        · exact ne_of e hx (by intro z; cases z) z
    exact t1.keep (kpu _) (ne_of t1.dt hp3 (by intro z; cases z)) (fun l' h => lsk l' (List.mem_append.mpr (.inl h))) tupk
  · rw [el]
    refine t.keep (kpu _) n1.symm (fun l' h => ?_) tupk
    rcases new l' h with q | q
    · exact lsk l' (List.mem_append.mpr (.inr q))
    · obtain ⟨dx', hp0⟩ := B.ob
      exact (ne_of_none hp0 q).symm
  · have a1 : ¬ (c = b.dL ∨ c = l) := by
      rintro (z | z)
      · exact hn (.inr (.inr (.inl z)))
      · rcases hl with q | q
        · exact hn (.inr (.inr (.inr (z ▸ List.mem_append.mpr (.inr q)))))
        · rw [z, q] at h
          cases h
    rw [upd_ne fun z => hn (.inl z)]
    exact kp _ _ (s _ _ h) a1
end
section
variable {P : Program} {w : World} {K : PySem.W.Frag} {mg : Str → Option Value} {base : Heap} {f : Addr} {fd : FuncData}
/-! ### land -/
def spLand (K : PySem.W.Frag) : Sp := fun vs H Q _ => ∃ (b : Bk) (e d : Int) (n : Str) (wt : Int), vs = [.ref b.p, .int e, .str n, .int d, .int wt] ∧ BookAt K H b ∧ (b.lsM ++ b.lsL).Nodup ∧ b.L.length ≤ 60 ∧ (∀ en ∈ b.L, en.2.length ≤ 60) ∧
  0 ≤ e ∧ 0 ≤ d ∧ IsNm n ∧ 0 ≤ wt ∧ tlOk b.tl e ∧ ∀ b' H', ToldTo K H b b' e H' → b'.L = tellT b.L (n, d) e (some wt) → b'.M = b.M → Q .non H'
theorem scLand : FnScope ["self", "known", "light", "day", "weight"] ["self", "known", "light", "day", "weight"] (defScope sBLand) := ⟨rfl, rfl, rfl, by decide +kernel, rfl, by decide +kernel, by decide +kernel⟩
theorem okLand (F : FnP K "land" "Book.land" sBLand [] f fd) (T : Tx K mg) (U1 : Use P w K mg base 2 "want_day" ["thing"] [] spWantDay) (U2 : Use P w K mg base 1 "is_name" ["thing"] [] spIsName)
    (U3 : Use P w K mg base 1 "is_whole" ["thing", "least"] [.int 0] spIsWhole) (U4 : UseM P w K mg base 1 (cB K) "want_not_early" ["self", "known"] [] (spBWantNotEarly K)) (U5 : Use P w K mg base 1 "put_down" ["rows", "known", "worth"] [] spPutDown) :
    FnOk P w K mg base CX0 3 f fd ["self", "known", "light", "day", "weight"] (spLand K) := by
  refine F.ok scLand (fun vs H Q E h => ?_) (fun cdv A outer s H vs Q E hr h => ?_)
  · obtain ⟨b, e, d, n, wt, rfl, _⟩ := h; rfl
  · obtain ⟨b, e, d, n, wt, rfl, B, nd, lm, lr, e0, d0, hn, w0, ht, q⟩ := h
    refine ⟨_, PSs.nox (pss_cons (ps_expr (pe_use U1 hr (by rfl) (pa_cons (pv 1) pa_nil)))
      (pss_cons (ps_expr (pe_use U1 hr (by rfl) (pa_cons (pv 3) pa_nil)))
      (pss_cons (ps_if (pt_not (pt_val (pe_use U2 (hr.mono (by decide)) (by rfl) (pa_cons (pv 2) pa_nil)))) (pss_one ps_never) pss_nil)
      (pss_cons (ps_if (pt_not (pt_val (pe_use U3 (hr.mono (by decide)) (by rfl) (pa_cons (pv 4) pa_nil)))) (pss_one ps_never) pss_nil)
      (pss_cons (ps_expr (pe_useM (pv 0) T.clB U4 (hr.mono (by decide)) (pa_cons (pv 1) pa_nil)))
      (pss_cons (ps_expr (pe_use U5 (hr.mono (by decide)) (by rfl) (pa_cons (pe_bm PySem.F.plainAttrs_dict PySem.F.slot_dict_setdefault PySem.F.type_dict_setdefault (mt_setdT (Nat.lt_of_le_of_lt (Nat.add_le_add_left (by decide) _) hr.units)) (pe_fld (pv 0) rfl) (pa_cons (pe_tup (pa_cons (pv 2) (pa_cons (pv 3) pa_nil))) (pa_cons (pe_lst pa_nil) pa_nil)))
          (pa_cons (pv 1) (pa_cons (pv 4) pa_nil)))))
      (pss_one (ps_fld (pv 0) (pv 1) rfl)))))))), ?_⟩
    obtain ⟨dx, hp⟩ := B.ob
    refine ⟨_, rfl, e, rfl, e0, ?_⟩
    refine ⟨_, rfl, d, rfl, d0, ?_⟩
    refine ⟨_, rfl, n, rfl, hn, fun H1 s1 => ⟨true, rfl, ?_⟩⟩
    refine iteF ?_
    refine ⟨_, rfl, wt, 0, rfl, w0, true, rfl, ?_⟩
    refine iteF ?_
    refine ⟨_, rfl, b.p, dx, _, rfl, s1 _ _ hp, fB_ne _ _ _ _, _, rfl, b, e, rfl, B.same s1, ht, ?_⟩
    refine ⟨_, rfl, b.p, cB K, dx, _, _, rfl, s1 _ _ hp, T.clB, T.nLands, fldsB_lands _ _ _ _, .inr (.inr (.inl ⟨rfl, .inr ⟨_, (B.same s1).ld.dt⟩⟩)), _, rfl, _, rfl, Nat.le_of_lt (sz63 (by show 2 ≤ 64; decide)), fun t ht0 => ?_⟩
    refine ⟨by decide, fun nl hnl => ?_⟩
    have s2 : Same H1 (L2.upd (L2.upd H1 t (.tup [.str n, .int d])) nl (.lst [])) := (same_upd ht0).trans (same_upd hnl)
    have nt : t ≠ nl := fun z => by rw [← z, upd_same] at hnl; cases hnl
    have ht2 : (L2.upd (L2.upd H1 t (.tup [.str n, .int d])) nl (.lst [])) t = some (.tup ((kOf (n, d)).map kV)) := by rw [upd_ne nt, upd_same]; rfl
    have hl2 : (L2.upd (L2.upd H1 t (.tup [.str n, .int d])) nl (.lst [])) nl = some (.lst []) := upd_same
    have fl : H nl = none := s1.free (by rw [upd_ne nt.symm] at hnl; exact hnl)
    generalize L2.upd (L2.upd H1 t (.tup [.str n, .int d])) nl (.lst []) = H2 at *
    have s12 : Same H H2 := s1.trans s2
    have B2 := B.same s12
    have nnl : nl ∉ b.lsM ++ b.lsL := fun h => by
      obtain ⟨xs, h2⟩ := B.lsOk nl h
      rw [fl] at h2
      cases h2
    refine ⟨b.dL, t, _, kOf (n, d), .ref nl, rfl, rfl, B2.ld.dt, ht2, by rw [kvT_len (Paired.length B.ld.rs)]; exact sz63 (by omega), fun v hv => ?_, fun hv => ?_⟩
    · obtain ⟨l, rfl⟩ : ∃ l, v = .ref l := by
        obtain ⟨i, hi⟩ := valV_ref hv
        exact hi
      obtain ⟨hl, rows, hr1, ⟨en, hen, ern⟩, fin⟩ := tab_there e (some wt) B2.ld (List.nodup_append.mp nd).2.1 hv
      refine ⟨_, rfl, _, rfl, Int, V.int, l, rows, e, (some wt), rfl, hr1, by rw [← ern]; exact lr en hen, fun H3 kp r3 => ?_⟩
      obtain ⟨ts, hts, _⟩ := hr1
      obtain ⟨dx3, hp3, td⟩ := toldL (e := e) (b' := { b with L := tellT b.L (n, d) e (some wt), tl := some e }) B2 s12 B l (.inl hl) ⟨_, hts⟩ (kp.mono fun c => .inr) (fun z => (List.nodup_append.mp nd).2.2 l z l hl rfl) rfl rfl rfl rfl rfl rfl rfl rfl (fin H3 kp r3) nd (fun _ => .inl)
      refine ⟨_, rfl, _, rfl, b.p, cB K, dx3, _, rfl, hp3, T.clB, T.nLast, by rw [fldsB_eq]; show 4 < 1000; decide, ?_⟩
      rw [fldsB_put]
      exact q _ _ td rfl rfl
    · have kp0 : Kp (fun c => c = b.dL ∨ c = nl) H2 (L2.upd H2 b.dL (.dT (putK (kvT b.L b.lsL) (kOf (n, d)) (.ref nl)))) := kp_upd (.inl rfl)
      have nd2 : b.dL ≠ nl := ne_of B2.ld.dt hl2 (by intro z; cases z)
      refine ⟨_, rfl, _, rfl, Int, V.int, nl, [], e, (some wt), rfl, ⟨[], by rw [upd_ne nd2.symm]; exact hl2, .nil⟩, Nat.zero_le _, fun H3 kp r3 => ?_⟩
      obtain ⟨dx3, hp3, td⟩ := toldL (e := e) (b' := { b with L := tellT b.L (n, d) e (some wt), tl := some e, lsL := b.lsL ++ [nl] }) B2 s12 B nl (.inr fl) ⟨_, hl2⟩ (kp0.trans (kp.mono fun c => .inr)) (fun z => nnl (List.mem_append.mpr (.inl z))) rfl rfl rfl rfl rfl rfl rfl rfl
        (tab_new e (some wt) B2.ld hv (fun z => nnl (List.mem_append.mpr (.inr z))) hl2 H3 kp r3) (nodup_snocR nd nnl) (fun l h => by
          rcases List.mem_append.mp h with h | h
          · exact .inl h
          · exact .inr (List.mem_singleton.mp h ▸ fl))
      refine ⟨_, rfl, _, rfl, b.p, cB K, dx3, _, rfl, hp3, T.clB, T.nLast, by rw [fldsB_eq]; show 4 < 1000; decide, ?_⟩
      rw [fldsB_put]
      exact q _ _ td rfl rfl
end
end LT
namespace LT
open PySem PySem.Spec PyProof.Rows L2
/-! ### where, landed: plain -/
def whereF (rows : List (Int × Str)) (day : Int) : Str := rows.foldl (fun acc r => if r.1 ≤ day then r.2 else acc) ""
theorem whereF_snoc (rows : List (Int × Str)) (r : Int × Str) (day : Int) : whereF (rows ++ [r]) day = if r.1 ≤ day then r.2 else whereF rows day := by
  unfold whereF
  rw [List.foldl_append]
  rfl
def landF (rows : List (Int × Int)) (day : Int) : List Int := rows.filterMap fun r => if r.1 = day then some r.2 else none
theorem landF_snoc (rows : List (Int × Int)) (r : Int × Int) (day : Int) : landF (rows ++ [r]) day = landF rows day ++ (if r.1 = day then [r.2] else []) := by
  unfold landF
  rw [List.filterMap_append]
  congr 1
  by_cases h : r.1 = day
  · simp [h]
  · simp [h]
theorem landF_len (rows : List (Int × Int)) (day : Int) : (landF rows day).length ≤ rows.length := List.length_filterMap_le _ _
theorem heldU_len {α : Type} (k : Option Int) (n : Str) (m : Tb α) : (heldU k n m).length ≤ m.length := List.length_filterMap_le _ _
theorem held_len {α : Type} (v : α → V) (k : Option Int) (n : Str) (m : Tb α) : (held v k n m).length ≤ m.length := by
  have h := (srt_perm (rowH v) (heldU k n m)).length_eq
  unfold held
  rw [h]
  exact heldU_len k n m
/-- the i-th row -/
theorem rws_at {H : Hp} {ts : List Addr} {β : Type} {row : β → List V} {bs : List β} (r : Rws H ts (bs.map row)) {i : Nat} (h : i < bs.length) : ∃ t, ts[i]? = some t ∧ H t = some (.tup (row bs[i])) := by
  have l := Paired.length r
  rw [List.length_map] at l
  have hi : i < ts.length := by omega
  obtain ⟨b, hb1, hb2⟩ := paired_at r hi
  rw [List.getElem?_map, List.getElem?_eq_getElem h] at hb1
  cases hb1
  exact ⟨ts[i], List.getElem?_eq_getElem hi, hb2⟩
section
variable {P : Program} {w : World} {K : PySem.W.Frag} {mg : Str → Option Value} {base : Heap} {f : Addr} {fd : FuncData}
def spWhere (K : PySem.W.Frag) : Sp := fun vs H Q _ => ∃ (b : Bk) (n : Str) (d : Int) (k : Option Int), vs = [.ref b.p, .str n, .int d, vK k] ∧ BookAt K H b ∧ b.M.length ≤ 60 ∧ n ∈ b.R.map (·.1) ∧ 0 ≤ d ∧ KOk k ∧
  ∀ H', Same H H' → Q (.str (whereF (held V.str k n b.M) d)) H'
theorem scWhere : FnScope ["self", "keeper", "day", "known", "found", "moved_on", "place"] ["self", "keeper", "day", "known"] (defScope sBWhere) := ⟨rfl, rfl, rfl, by decide +kernel, rfl, by decide +kernel, by decide +kernel⟩
theorem fB_hm (dR dM dL : Addr) (tl : V) : (fldsB dR dM dL tl).lookup ("held_moves" : Str) = none := fldsB_no _ _ _ _ (by decide +kernel) (by decide +kernel) (by decide +kernel) (by decide +kernel)
theorem fB_hl (dR dM dL : Addr) (tl : V) : (fldsB dR dM dL tl).lookup ("held_landings" : Str) = none := fldsB_no _ _ _ _ (by decide +kernel) (by decide +kernel) (by decide +kernel) (by decide +kernel)
theorem okWhere (F : FnP K "where" "Book.where" sBWhere [.non] f fd) (T : Tx K mg) (U1 : UseM P w K mg base 1 (cB K) "want_keeper" ["self", "thing"] [] (spBWantKeeper K)) (U2 : Use P w K mg base 2 "want_day" ["thing"] [] spWantDay)
    (U3 : Use P w K mg base 3 "want_known" ["thing"] [] spWantKnown) (U4 : UseM P w K mg base 2 (cB K) "held_moves" ["self", "keeper", "known"] [] (spHeldMoves K)) : FnOk P w K mg base CX0 4 f fd ["self", "keeper", "day", "known"] (spWhere K) := by
  refine F.ok scWhere (fun vs H Q E h => ?_) (fun cdv A outer s H vs Q E hr h => ?_)
  · obtain ⟨b, n, d, k, rfl, _⟩ := h; rfl
  · obtain ⟨b, n, d, k, rfl, B, lm, hn, d0, hk, q⟩ := h
    refine ⟨_, PSs.nox (pss_cons (ps_expr (pe_useM (pv 0) T.clB U1 (hr.mono (by decide)) (pa_cons (pv 1) pa_nil)))
      (pss_cons (ps_expr (pe_use U2 (hr.mono (by decide)) (by rfl) (pa_cons (pv 2) pa_nil)))
      (pss_cons (ps_expr (pe_use U3 hr (by rfl) (pa_cons (pv 3) pa_nil)))
      (pss_cons (ps_set (i := 4) scWhere.nd rfl (Or.inl rfl) (pe_gS T.ASHORE (by rfl)))
      (pss_cons (ps_for PassesOwn.never rfl (pi_list (pe_useM (pv 0) T.clB U4 (hr.mono (by decide)) (pa_cons (pv 1) (pa_cons (pv 3) pa_nil))))
          (pg_tup rfl (pgs_cons (pg_name (i := 5) scWhere.nd rfl (Or.inl rfl)) (pgs_cons (pg_name (i := 6) scWhere.nd rfl (Or.inl rfl)) pgs_nil)))
          (pss_one (ps_if (pt_cmpR op_le (pv 5) (pv 2) (nomark _)) (pss_one (ps_set (i := 4) scWhere.nd rfl (Or.inl rfl) (pv 6))) pss_nil)))
      (pss_one (ps_ret (pv 4)))))))), ?_⟩
    obtain ⟨dx, hp⟩ := B.ob
    refine ⟨_, rfl, b.p, dx, _, rfl, hp, fB_wk _ _ _ _, _, rfl, b, n, rfl, B, hn, ?_⟩
    refine ⟨_, rfl, d, rfl, d0, ?_⟩
    refine ⟨_, rfl, k, rfl, hk, ?_⟩
    refine ⟨_, rfl, b.p, dx, _, rfl, hp, fB_hm _ _ _ _, _, rfl, _, rfl, b, n, k, rfl, B, lm, fun H1 l ts sm hl hl1 rw1 => ?_⟩
    have lt : ts.length = (held V.str k n b.M).length := by have := Paired.length rw1; rw [List.length_map] at this; exact this
    refine ⟨l, rfl, ⟨_, SqL.of hl1⟩, for_it (walk_list (xs := ts.map V.ref)) (fun i σ H2 => H2 = H1 ∧ ∃ a1 a2, σ = [some (.ref b.p), some (.str n), some (.int d), some (vK k), some (.str (whereF ((held V.str k n b.M).take i) d)), a1, a2])
      ⟨rfl, none, none, rfl⟩ (fun i σ H2 _ h => by rw [h.1]; exact SqL.of hl1) ?_ ?_⟩
    · rintro i x σ H2 H3 hi ⟨rfl, a1, a2, rfl⟩ ⟨rfl, hx⟩
      rw [List.length_map, lt] at hi
      obtain ⟨t, ht1, ht2⟩ := rws_at rw1 hi
      rw [List.getElem?_map, ht1] at hx
      cases hx
      have nx : whereF ((held V.str k n b.M).take (i + 1)) d = if (held V.str k n b.M)[i].1 ≤ d then (held V.str k n b.M)[i].2 else whereF ((held V.str k n b.M).take i) d := by
        rw [List.take_succ_eq_append_getElem hi, whereF_snoc]
      refine ⟨t, _, rfl, SqT.of ht2, rfl, _, _, rfl, _, _, rfl, rfl, ?_⟩
      refine ⟨_, rfl, _, rfl, _, _, rfl, rfl, _, rfl, ?_⟩
      refine ite2 (fun h => ⟨_, rfl, rfl, some (.int (held V.str k n b.M)[i].1), some (.str (held V.str k n b.M)[i].2), ?_⟩) (fun h => ⟨rfl, some (.int (held V.str k n b.M)[i].1), some (.str (held V.str k n b.M)[i].2), ?_⟩)
      · rw [nx, if_pos (of_decide_eq_true h)]
        rfl
      · rw [nx, if_neg (fun z => h (decide_eq_true z))]
        rfl
    · rintro σ H2 ⟨rfl, a1, a2, rfl⟩
      refine ⟨_, rfl, ?_⟩
      rw [List.length_map, lt, List.take_length]
      exact q _ sm
def spLanded (K : PySem.W.Frag) : Sp := fun vs H Q _ => ∃ (b : Bk) (n : Str) (d : Int) (k : Option Int), vs = [.ref b.p, .str n, .int d, vK k] ∧ BookAt K H b ∧ b.L.length ≤ 60 ∧ IsNm n ∧ 0 ≤ d ∧ KOk k ∧
  ∀ H', Same H H' → Q (.int (landF (held V.int k n b.L) d).sum) H'
theorem scLanded : FnScope ["self", "light", "day", "known", "landed_on", "weight"] ["self", "light", "day", "known"] (defScope sBLanded) := ⟨rfl, rfl, rfl, by decide +kernel, rfl, by decide +kernel, by decide +kernel⟩
theorem okLanded (F : FnP K "landed" "Book.landed" sBLanded [.non] f fd) (T : Tx K mg) (U1 : Use P w K mg base 1 "is_name" ["thing"] [] spIsName) (U2 : Use P w K mg base 2 "want_day" ["thing"] [] spWantDay)
    (U3 : Use P w K mg base 3 "want_known" ["thing"] [] spWantKnown) (U4 : UseM P w K mg base 2 (cB K) "held_landings" ["self", "light", "known"] [] (spHeldLandings K)) : FnOk P w K mg base CX0 4 f fd ["self", "light", "day", "known"] (spLanded K) := by
  refine F.ok scLanded (fun vs H Q E h => ?_) (fun cdv A outer s H vs Q E hr h => ?_)
  · obtain ⟨b, n, d, k, rfl, _⟩ := h; rfl
  · obtain ⟨b, n, d, k, rfl, B, lm, hn, d0, hk, q⟩ := h
    refine ⟨_, PSs.nox (pss_cons (ps_if (pt_not (pt_val (pe_use U1 (hr.mono (by decide)) (by rfl) (pa_cons (pv 1) pa_nil)))) (pss_one ps_never) pss_nil)
      (pss_cons (ps_expr (pe_use U2 (hr.mono (by decide)) (by rfl) (pa_cons (pv 2) pa_nil)))
      (pss_cons (ps_expr (pe_use U3 hr (by rfl) (pa_cons (pv 3) pa_nil)))
      (pss_one (ps_ret (pe_callB (cr_sum rfl) (by rfl) T.sum (by decide +kernel) (pa_cons (pe_lc (own := [("landed_on", 4), ("weight", 5)]) (g := gTup K 2 (gCons (gName 4) (gCons (gName 5) gNil))) rfl scLanded.nd
          (pi_list (pe_useM (pv 0) T.clB U4 (hr.mono (by decide)) (pa_cons (pv 1) (pa_cons (pv 3) pa_nil)))) (blkOk_by (N := ["self", "light", "day", "known", "landed_on", "weight"]) (sc := defScope sBLanded) (by decide +kernel))
          (fun _ _ _ _ _ => pg_tup rfl (pgs_cons (pg_name (i := 4) scLanded.nd rfl (Or.inl rfl)) (pgs_cons (pg_name (i := 5) scLanded.nd rfl (Or.inl rfl)) pgs_nil)))
          (fun _ _ _ _ _ => pts_one (pt_cmpR op_eq (pv 4) (pv 2) (nomark _))) (fun _ _ _ _ _ => pv 5)) pa_nil))))))), ?_⟩
    obtain ⟨dx, hp⟩ := B.ob
    refine ⟨_, rfl, n, rfl, hn, fun H0 s0 => ⟨true, rfl, ?_⟩⟩
    refine iteF ?_
    refine ⟨_, rfl, d, rfl, d0, ?_⟩
    refine ⟨_, rfl, k, rfl, hk, ?_⟩
    refine ⟨_, rfl, b.p, dx, _, rfl, s0 _ _ hp, fB_hl _ _ _ _, _, rfl, _, rfl, b, n, k, rfl, B.same s0, lm, fun H1 l ts sm hl hl1 rw1 => ?_⟩
    have lt : ts.length = (held V.int k n b.L).length := by have := Paired.length rw1; rw [List.length_map] at this; exact this
    have lh : (held V.int k n b.L).length ≤ 60 := Nat.le_trans (held_len _ _ _ _) lm
    refine ⟨l, rfl, ⟨_, SqL.of hl1⟩, fun D hD => lc_it (walk_list (xs := ts.map V.ref)) (fun i H2 => Same H1 H2 ∧ H2 D = some (.lst ((landF ((held V.int k n b.L).take i) d).map V.int))) ⟨same_upd hD, upd_same⟩ (fun _ _ _ h => SqL.of (h.1 _ _ hl1)) ?_ ?_⟩
    · rintro i x H2 H3 hi ⟨sm2, hl2⟩ ⟨rfl, hx⟩
      rw [List.length_map, lt] at hi
      obtain ⟨t, ht1, ht2⟩ := rws_at rw1 hi
      rw [List.getElem?_map, ht1] at hx
      cases hx
      have nx : landF ((held V.int k n b.L).take (i + 1)) d = landF ((held V.int k n b.L).take i) d ++ (if (held V.int k n b.L)[i].1 = d then [(held V.int k n b.L)[i].2] else []) := by
        rw [List.take_succ_eq_append_getElem hi, landF_snoc]
      refine ⟨t, _, rfl, SqT.of (sm2 _ _ ht2), rfl, _, _, rfl, _, _, rfl, rfl, rfl, ?_⟩
      refine ⟨_, rfl, _, rfl, rfl, _, rfl, ?_⟩
      by_cases hd : (held V.int k n b.L)[i].1 = d
      · rw [if_pos hd] at nx
        refine ifT (by rw [hd]) ?_
        refine ⟨_, rfl, _, hl2, by rw [List.length_map]; exact sz63 (by have := landF_len ((held V.int k n b.L).take i) d; rw [List.length_take] at this; omega), fun c o e => ?_, ?_⟩
        · rw [upd_ne (ne_of_none e hD)]
          exact sm2 c o e
        · rw [upd_same, nx, List.map_append]
          rfl
      · rw [if_neg hd, List.append_nil] at nx
        exact ifF (fun z => hd (V.int.inj z)) ⟨sm2, by rw [nx]; exact hl2⟩
    · rintro H2 ⟨sm2, hl2⟩
      rw [List.length_map, lt, List.take_length] at hl2
      exact ⟨D, _, rfl, SqL.of hl2, q _ ((s0.trans sm).trans sm2)⟩
end
end LT
namespace LT
open PySem PySem.Spec PyProof.Rows L2
/-! ### Stretch -/
def fldsS (a l : V) : List (Str × V) := putF "end" l (putF "begin" a [])
theorem fS1 : ¬ (("begin" : Str) = "end") := by decide +kernel
theorem fldsS_eq (a l : V) : fldsS a l = [(("begin" : Str), a), (("end" : Str), l)] := by
  simp only [fldsS, putF, if_neg fS1]
theorem fldsS_begin (a l : V) : (fldsS a l).lookup ("begin" : Str) = some a := by
  unfold fldsS
  rw [lookup_putF, if_neg fS1, lookup_putF, if_pos rfl]
theorem fldsS_end (a l : V) : (fldsS a l).lookup ("end" : Str) = some l := by
  unfold fldsS
  rw [lookup_putF, if_pos rfl]
def LastOk (a : Int) : Option Int → Prop
  | none => True
  | some l => a ≤ l
/-- the text of a stretch -/
def strS (a : Int) : Option Int → Str
  | none => Str.empty ++ ("Stretch(" : Str) ++ Str.ofString (toString a) ++ ")"
  | some l => Str.empty ++ ("Stretch(" : Str) ++ Str.ofString (toString a) ++ ", " ++ Str.ofString (toString l) ++ ")"
/-- a number whose text is short -/
def Sm (i : Int) : Prop := i.natAbs.log2 < 1920
def SmO : Option Int → Prop
  | none => True
  | some l => Sm l
section
variable {P : Program} {w : World} {K : PySem.W.Frag} {mg : Str → Option Value} {base : Heap} {f : Addr} {fd : FuncData}
def spSInit (K : PySem.W.Frag) : Sp := fun vs H Q _ => ∃ (p dx : Addr) (a : Int) (l : Option Int), vs = [.ref p, .int a, vK l] ∧ H p = some (.ins (cS K) dx []) ∧ 0 ≤ a ∧ LastOk a l ∧
  ∀ o, Q .non (L2.upd (L2.upd H p o) p (.ins (cS K) dx (fldsS (.int a) (vK l))))
theorem scSInit : FnScope ["self", "first", "last"] ["self", "first", "last"] (defScope sSInit) := ⟨rfl, rfl, rfl, by decide +kernel, rfl, by decide +kernel, by decide +kernel⟩
theorem okSInit (F : FnP K "__init__" "Stretch.__init__" sSInit [.non] f fd) (T : Tx K mg) (U0 : Use P w K mg base 1 "is_whole" ["thing", "least"] [.int 0] spIsWhole) (U1 : Use P w K mg base 1 "is_whole" ["thing", "least"] [] spIsWhole) :
    FnOk P w K mg base CX0 2 f fd ["self", "first", "last"] (spSInit K) := by
  refine F.ok scSInit (fun vs H Q E h => ?_) (fun cdv A outer s H vs Q E hr h => ?_)
  · obtain ⟨p, dx, a, l, rfl, _⟩ := h; rfl
  · obtain ⟨p, dx, a, l, rfl, hp, ha, hl, q⟩ := h
    refine ⟨_, PSs.nox (pss_cons (ps_if (pt_not (pt_val (pe_use U0 hr (by rfl) (pa_cons (pv 1) pa_nil)))) (pss_one ps_never) pss_nil)
      (pss_cons (ps_if (PW.pt (pw_and (pt_cmpR op_notN (pv 2) pe_non (nomark _)) (pw_and1 (pt_not (pt_val (pe_use U1 hr (by rfl) (pa_cons (pv 2) (pa_cons (pv 1) pa_nil)))))))) (pss_one ps_never) pss_nil)
      (pss_cons (ps_fld (pv 0) (pv 1) rfl)
      (pss_one (ps_fld (pv 0) (pv 2) rfl))))), ?_⟩
    refine ⟨_, rfl, a, 0, rfl, ha, true, rfl, ?_⟩
    refine iteF ?_
    refine ⟨_, rfl, rfl, _, rfl, ?_⟩
    cases l with
    | none =>
      refine iteF ?_
      exact ⟨_, rfl, _, rfl, p, cS K, dx, [], rfl, hp, T.clS, T.nBegin, by decide, _, rfl, _, rfl, p, cS K, dx, _, rfl, upd_same, T.clS, T.nEnd, by show 1 < 1000; decide, q _⟩
    | some l =>
      refine iteT ⟨_, rfl, _, rfl, l, a, rfl, hl, true, rfl, ?_⟩
      refine iteF ?_
      exact ⟨_, rfl, _, rfl, p, cS K, dx, [], rfl, hp, T.clS, T.nBegin, by decide, _, rfl, _, rfl, p, cS K, dx, _, rfl, upd_same, T.clS, T.nEnd, by show 1 < 1000; decide, q _⟩
def spSRepr (K : PySem.W.Frag) : Sp := fun vs H Q _ => ∃ (p dx : Addr) (a : Int) (l : Option Int), vs = [.ref p] ∧ H p = some (.ins (cS K) dx (fldsS (.int a) (vK l))) ∧ Sm a ∧ SmO l ∧ Q (.str (strS a l)) H
theorem scSRepr : FnScope ["self"] ["self"] (defScope sSRepr) := ⟨rfl, rfl, rfl, by decide +kernel, rfl, by decide +kernel, by decide +kernel⟩
theorem okSRepr (F : FnP K "__repr__" "Stretch.__repr__" sSRepr [] f fd) (T : Tx K mg) : FnOk P w K mg base CX0 1 f fd ["self"] (spSRepr K) := by
  refine F.ok scSRepr (fun vs H Q E h => ?_) (fun cdv A outer s H vs Q E hr h => ?_)
  · obtain ⟨p, dx, a, l, rfl, _⟩ := h; rfl
  · obtain ⟨p, dx, a, l, rfl, hp, ha, hl, q⟩ := h
    refine ⟨_, PSs.nox (pss_cons (ps_if (pt_cmpR op_isN (pe_fld (pv 0) rfl) pe_non (nomark _)) (pss_one (ps_ret (pe_joined (.cons pe_str (.cons (pe_fmt (pe_fld (pv 0) rfl)) (.cons pe_str .nil)))))) pss_nil)
      (pss_one (ps_ret (pe_joined (.cons pe_str (.cons (pe_fmt (pe_fld (pv 0) rfl)) (.cons pe_str (.cons (pe_fmt (pe_fld (pv 0) rfl)) (.cons pe_str .nil))))))))), ?_⟩
    refine ⟨_, rfl, p, cS K, dx, _, _, rfl, hp, T.clS, T.nEnd, fldsS_end _ _, rfl, _, rfl, ?_⟩
    cases l with
    | none =>
      refine iteT ?_
      have z1 := int_text_len_1921 ha
      refine ⟨_, rfl, by decide +kernel, ?_⟩
      refine ⟨_, rfl, p, cS K, dx, _, _, rfl, hp, T.clS, T.nBegin, fldsS_begin _ _, .inr ⟨a, rfl, ha, _, rfl, ?_, _, rfl, ?_, q⟩⟩
      · rw [strLen_append]
        exact Nat.le_trans (Nat.add_le_add_left z1 _) (by decide +kernel)
      · rw [strLen_append, strLen_append]
        exact Nat.le_trans (Nat.add_le_add_right (Nat.add_le_add_left z1 _) _) (by decide +kernel)
    | some l =>
      refine iteF ?_
      have z1 := int_text_len_1921 ha
      have z2 := int_text_len_1921 hl
      refine ⟨_, rfl, by decide +kernel, ?_⟩
      refine ⟨_, rfl, p, cS K, dx, _, _, rfl, hp, T.clS, T.nBegin, fldsS_begin _ _, .inr ⟨a, rfl, ha, _, rfl, ?_, _, rfl, ?_, ?_⟩⟩
      · rw [strLen_append]
        exact Nat.le_trans (Nat.add_le_add_left z1 _) (by decide +kernel)
      · rw [strLen_append, strLen_append]
        exact Nat.le_trans (Nat.add_le_add_right (Nat.add_le_add_left z1 _) _) (by decide +kernel)
      refine ⟨_, rfl, p, cS K, dx, _, _, rfl, hp, T.clS, T.nEnd, fldsS_end _ _, .inr ⟨l, rfl, hl, _, rfl, ?_, _, rfl, ?_, q⟩⟩
      · rw [strLen_append, strLen_append, strLen_append]
        exact Nat.le_trans (Nat.add_le_add (Nat.add_le_add_right (Nat.add_le_add_left z1 _) _) z2) (by decide +kernel)
      · rw [strLen_append, strLen_append, strLen_append, strLen_append]
        exact Nat.le_trans (Nat.add_le_add_right (Nat.add_le_add (Nat.add_le_add_right (Nat.add_le_add_left z1 _) _) z2) _) (by decide +kernel)
end
end LT
namespace LT
open PySem PySem.Spec PyProof.Rows L2
/-! ### runs: plain -/
def lastN (acc : List (Str × Int)) : Str := match acc.getLast? with
  | some r => r.1
  | none => ""
def runsStep (acc : List (Str × Int)) (r : Int × Str) : List (Str × Int) := if r.1 = 0 then [(r.2, 0)] else if r.2 = lastN acc then acc else acc ++ [(r.2, r.1)]
def runsF (mv : List (Int × Str)) : List (Str × Int) := mv.foldl runsStep [("", 0)]
theorem runsF_snoc (mv : List (Int × Str)) (r : Int × Str) : runsF (mv ++ [r]) = runsStep (runsF mv) r := by
  unfold runsF
  rw [List.foldl_append]
  rfl
theorem runsStep_ne {acc : List (Str × Int)} (r : Int × Str) (h : acc ≠ []) : runsStep acc r ≠ [] := by
  unfold runsStep
  split
  · exact List.cons_ne_nil _ _
  · split
    · exact h
    · simp
theorem runsStep_len (acc : List (Str × Int)) (r : Int × Str) : (runsStep acc r).length ≤ acc.length + 1 := by
  unfold runsStep
  split
  · simp
  · split
    · omega
    · simp
theorem runsF_ne (mv : List (Int × Str)) : runsF mv ≠ [] := by
  unfold runsF
  have go : ∀ (l : List (Int × Str)) (acc : List (Str × Int)), acc ≠ [] → l.foldl runsStep acc ≠ [] := by
    intro l
    induction l with
    | nil => exact fun _ h => h
    | cons r l ih => exact fun acc h => ih _ (runsStep_ne r h)
  exact go mv _ (List.cons_ne_nil _ _)
theorem runsF_len (mv : List (Int × Str)) : (runsF mv).length ≤ mv.length + 1 := by
  unfold runsF
  have go : ∀ (l : List (Int × Str)) (acc : List (Str × Int)), (l.foldl runsStep acc).length ≤ acc.length + l.length := by
    intro l
    induction l with
    | nil => intro acc; exact Nat.le_refl _
    | cons r l ih =>
      intro acc
      have h1 := ih (runsStep acc r)
      have h2 := runsStep_len acc r
      rw [List.foldl_cons, List.length_cons]
      omega
  have := go mv [("", 0)]
  rw [List.length_singleton] at this
  omega
def rowR (r : Str × Int) : List V := [.str r.1, .int r.2]
def turnX (runs : List (Str × Int)) (i : Nat) (r : Str × Int) : Str × Int × Option Int := (r.1, r.2, (runs[i + 1]?).map fun q => q.2 - 1)
def turnsF (runs : List (Str × Int)) : List (Str × Int × Option Int) := runs.mapIdx (turnX runs)
/-- first days from 0 on, each later than the one before -/
def RunsOk (runs : List (Str × Int)) : Prop := (∀ r ∈ runs, 0 ≤ r.2) ∧ runs.Pairwise fun a b => a.2 < b.2
def turnOnF (runs : List (Str × Int)) (d : Int) : Str × Int := runs.foldl (fun acc r => if r.2 ≤ d then r else acc) ("", 0)
theorem turnOnF_snoc (runs : List (Str × Int)) (r : Str × Int) (d : Int) : turnOnF (runs ++ [r]) d = if r.2 ≤ d then r else turnOnF runs d := by
  unfold turnOnF
  rw [List.foldl_append]
  rfl
section
variable {P : Program} {w : World} {K : PySem.W.Frag} {mg : Str → Option Value} {base : Heap} {f : Addr} {fd : FuncData}
def spRunsOf : Sp := fun vs H Q _ => ∃ (l : Addr) (ts : List Addr) (mv : List (Int × Str)), vs = [.ref l] ∧ H l = some (.lst (ts.map V.ref)) ∧ Rws H ts (mv.map (rowH V.str)) ∧ mv.length ≤ 60 ∧
  ∀ (H' : Hp) (F : Addr) (rs : List Addr), Same H H' → H F = none → H' F = some (.lst (rs.map V.ref)) → Rws H' rs ((runsF mv).map rowR) → Q (.ref F) H'
theorem scRunsOf : FnScope ["moves", "found", "day", "place"] ["moves"] (defScope sRunsOf) := ⟨rfl, rfl, rfl, by decide +kernel, rfl, by decide +kernel, by decide +kernel⟩
theorem okRunsOf (F : FnP K "runs_of" "runs_of" sRunsOf [] f fd) (T : Tx K mg) : FnOk P w K mg base CX0 1 f fd ["moves"] spRunsOf := by
  refine F.ok scRunsOf (fun vs H Q E h => ?_) (fun cdv A outer s H vs Q E hr h => ?_)
  · obtain ⟨l, ts, mv, rfl, _⟩ := h; rfl
  · obtain ⟨l, ts, mv, rfl, hl, hrw, lm, q⟩ := h
    have lt : ts.length = mv.length := by have := Paired.length hrw; rw [List.length_map] at this; exact this
    refine ⟨_, PSs.nox (pss_cons (ps_set (i := 1) scRunsOf.nd rfl (Or.inl rfl) (pe_lst (pa_cons (pe_tup (pa_cons (pe_gS T.ASHORE (by rfl)) (pa_cons pe_int pa_nil))) pa_nil)))
      (pss_cons (ps_for PassesOwn.never rfl (pi_list (pv 0)) (pg_tup rfl (pgs_cons (pg_name (i := 2) scRunsOf.nd rfl (Or.inl rfl)) (pgs_cons (pg_name (i := 3) scRunsOf.nd rfl (Or.inl rfl)) pgs_nil)))
          (pss_one (ps_if (pt_cmpR op_eq (pv 2) pe_int (nomark _)) (pss_one (ps_set (i := 1) scRunsOf.nd rfl (Or.inl rfl) (pe_lst (pa_cons (pe_tup (pa_cons (pv 3) (pa_cons pe_int pa_nil))) pa_nil))))
            (pss_one (ps_if (pt_cmpR op_ne (pv 3) (pe_ix ix_tup (pe_ix ix_list (pv 1) (pe_un un_neg pe_int) (fun _ _ => rfl)) pe_int (fun _ _ => rfl)) (nomark _))
              (pss_one (ps_expr (pe_bm PySem.F.plainAttrs_list PySem.F.slot_list_append PySem.F.type_list_append mt_append (pv 1) (pa_cons (pe_tup (pa_cons (pv 3) (pa_cons (pv 2) pa_nil))) pa_nil)))) pss_nil)))))
      (pss_one (ps_ret (pv 1))))), ?_⟩
    refine ⟨Nat.le_of_lt (sz63 (by show 2 ≤ 64; decide)), fun t0 ht0 => ⟨Nat.le_of_lt (sz63 (by show 1 ≤ 64; decide)), fun F0 hF0 => ?_⟩⟩
    have nF : t0 ≠ F0 := fun z => by rw [← z, upd_same] at hF0; cases hF0
    have s0 : Same H (L2.upd (L2.upd H t0 (.tup [.str "", .int 0])) F0 (.lst [.ref t0])) := (same_upd ht0).trans (same_upd hF0)
    have fF0 : H F0 = none := by rw [upd_ne nF.symm] at hF0; exact hF0
    refine ⟨_, rfl, l, rfl, ⟨_, SqL.of (s0 _ _ hl)⟩, for_it (walk_list (xs := ts.map V.ref)) (fun i σ H2 => Same H H2 ∧ ∃ (F : Addr) (rs : List Addr), H F = none ∧ H2 F = some (.lst (rs.map V.ref)) ∧ Rws H2 rs ((runsF (mv.take i)).map rowR) ∧ ∃ a1 a2, σ = [some (.ref l), some (.ref F), a1, a2])
      ⟨s0, F0, [t0], fF0, upd_same, .cons (by rw [upd_ne nF, upd_same]; rfl) .nil, none, none, rfl⟩ (fun i σ H2 _ h => SqL.of (h.1 _ _ hl)) ?_ ?_⟩
    · rintro i x σ H2 H3 hi ⟨sm, F, rs, fF, hF, hrs, a1, a2, rfl⟩ ⟨rfl, hx⟩
      rw [List.length_map, lt] at hi
      obtain ⟨t, ht1, ht2⟩ := rws_at hrw hi
      rw [List.getElem?_map, ht1] at hx
      cases hx
      have ht3 := sm _ _ ht2
      have nx : runsF (mv.take (i + 1)) = runsStep (runsF (mv.take i)) mv[i] := by rw [List.take_succ_eq_append_getElem hi, runsF_snoc]
      have lr : rs.length = (runsF (mv.take i)).length := by have := Paired.length hrs; rw [List.length_map] at this; exact this
      have lr2 := runsF_len (mv.take i)
      rw [List.length_take] at lr2
      have hne := runsF_ne (mv.take i)
      unfold runsStep at nx
      generalize runsF (mv.take i) = R at *
      refine ⟨t, _, rfl, SqT.of ht3, rfl, _, _, rfl, _, _, rfl, rfl, ?_⟩
      refine ⟨_, rfl, rfl, _, rfl, ?_⟩
      by_cases h0 : mv[i].1 = 0
      · rw [if_pos h0] at nx
        refine ifT (by rw [h0]) ?_
        refine ⟨_, rfl, Nat.le_of_lt (sz63 (by show 2 ≤ 64; decide)), fun t1 h1 => ⟨Nat.le_of_lt (sz63 (by show 1 ≤ 64; decide)), fun F1 hF1 => ?_⟩⟩
        have n1 : t1 ≠ F1 := fun z => by rw [← z, upd_same] at hF1; cases hF1
        have s1 := (same_upd h1 (o := .tup [.str mv[i].2, .int 0])).trans (same_upd hF1 (o := .lst [.ref t1]))
        refine ⟨sm.trans s1, F1, [t1], sm.free (by rw [upd_ne n1.symm] at hF1; exact hF1), upd_same, ?_, some (.int mv[i].1), some (.str mv[i].2), rfl⟩
        rw [nx]
        exact .cons (by rw [upd_ne n1, upd_same]; rfl) .nil
      · rw [if_neg h0] at nx
        refine ifF (fun z => h0 (V.int.inj z)) ?_
        have hrn : rs ≠ [] := fun z => by rw [z] at lr; exact hne (List.eq_nil_of_length_eq_zero lr.symm)
        obtain ⟨rs0, r0, rfl⟩ : ∃ a b, rs = a ++ [b] := ⟨rs.dropLast, rs.getLast hrn, (List.dropLast_concat_getLast hrn).symm⟩
        obtain ⟨R0, q0, rfl⟩ : ∃ a b, R = a ++ [b] := ⟨R.dropLast, R.getLast hne, (List.dropLast_concat_getLast hne).symm⟩
        have le : rs0.length = R0.length := by simpa using lr
        have hr0 : H3 r0 = some (.tup (rowR q0)) := by
          rw [List.map_append] at hrs
          obtain ⟨_, rwb⟩ := paired_split (by rw [List.length_map]; exact le) hrs
          cases rwb with | cons a _ => exact a
        have eL : lastN (R0 ++ [q0]) = q0.1 := by unfold lastN; simp
        rw [eL] at nx
        refine ⟨_, rfl, _, rfl, 1, rfl, F, _, _, .ref r0, rfl, rfl, SqL.of hF, by rw [List.map_append]; exact atI_last _ _, ?_⟩
        refine ⟨r0, _, _, .str q0.1, rfl, rfl, SqT.of hr0, atI_nat (j := 0) rfl, rfl, _, rfl, ?_⟩
        by_cases hp : mv[i].2 = q0.1
        · rw [if_pos hp] at nx
          rw [hp, decide_eq_true rfl]
          refine iteF ⟨sm, F, _, fF, hF, by rw [nx]; exact hrs, some (.int mv[i].1), some (.str q0.1), rfl⟩
        · rw [if_neg hp] at nx
          rw [decide_eq_false fun z => hp (V.str.inj z)]
          refine iteT ?_
          refine ⟨_, rfl, .inl ⟨rfl, _, SqL.of hF⟩, _, rfl, _, rfl, Nat.le_of_lt (sz63 (by show 2 ≤ 64; decide)), fun t1 h1 => ?_⟩
          have n1 : F ≠ t1 := ne_of_none hF h1
          refine ⟨F, _, _, rfl, rfl, by rw [upd_ne n1]; exact hF, by rw [List.length_map]; exact sz63 (by simp at lr2 ⊢; omega), ?_⟩
          have k1 : ∀ c o, H3 c = some o → c ≠ F → (L2.upd (L2.upd H3 t1 (.tup [.str mv[i].2, .int mv[i].1])) F (.lst ((rs0 ++ [r0]).map V.ref ++ [.ref t1]))) c = some o := fun c o h hn => by
            rw [upd_ne hn, upd_ne (ne_of_none h h1)]
            exact h
          refine ⟨fun c o h => k1 c o (sm c o h) (ne_of_none h fF), F, (rs0 ++ [r0]) ++ [t1], fF, by rw [upd_same, List.map_append (l₁ := rs0 ++ [r0])]; rfl, ?_, some (.int mv[i].1), some (.str mv[i].2), rfl⟩
          rw [nx, List.map_append (l₁ := R0 ++ [q0])]
          refine paired_append (Rws.keep hrs fun c x h => k1 c _ h (ne_of h hF (by intro z; cases z))) (.cons ?_ .nil)
          rw [upd_ne n1.symm, upd_same]
          rfl
    · rintro σ H2 ⟨sm, F, rs, fF, hF, hrs, a1, a2, rfl⟩
      rw [List.length_map, lt, List.take_length] at hrs
      exact ⟨_, rfl, q _ F rs sm fF hF hrs⟩
end
end LT
namespace LT
open PySem PySem.Spec PyProof.Rows L2
section
variable {P : Program} {w : World} {K : PySem.W.Frag} {mg : Str → Option Value} {base : Heap} {f : Addr} {fd : FuncData}
/-- a turn in the heap: the tuple and its stretch -/
def TurnAt (K : PySem.W.Frag) (H : Hp) (t : Addr) (x : Str × Int × Option Int) : Prop := ∃ st dx, H t = some (.tup [.str x.1, .ref st]) ∧ H st = some (.ins (cS K) dx (fldsS (.int x.2.1) (vK x.2.2)))
theorem TurnAt.keep {H H' : Hp} {t : Addr} {x : Str × Int × Option Int} (h : TurnAt K H t x) (k : ∀ c o, H c = some o → (∀ xs, o ≠ .lst xs) → H' c = some o) : TurnAt K H' t x := by
  obtain ⟨st, dx, h1, h2⟩ := h
  exact ⟨st, dx, k _ _ h1 (fun _ z => nomatch z), k _ _ h2 (fun _ z => nomatch z)⟩
def spTurns (K : PySem.W.Frag) : Sp := fun vs H Q _ => ∃ (b : Bk) (n : Str) (k : Option Int), vs = [.ref b.p, .str n, vK k] ∧ BookAt K H b ∧ b.M.length ≤ 60 ∧ n ∈ b.R.map (·.1) ∧ KOk k ∧ RunsOk (runsF (held V.str k n b.M)) ∧
  ∀ (H' : Hp) (F : Addr) (ts : List Addr), Same H H' → H F = none → H' F = some (.lst (ts.map V.ref)) → Paired (TurnAt K H') ts (turnsF (runsF (held V.str k n b.M))) → Q (.ref F) H'
theorem scTurns : FnScope ["book", "keeper", "known", "runs", "found", "k", "place", "first", "last"] ["book", "keeper", "known"] (defScope sTurns) := ⟨rfl, rfl, rfl, by decide +kernel, rfl, by decide +kernel, by decide +kernel⟩
theorem okTurns (F : FnP K "turns" "turns" sTurns [.non] f fd) (T : Tx K mg) (U1 : UseM P w K mg base 1 (cB K) "want_keeper" ["self", "thing"] [] (spBWantKeeper K)) (U3 : Use P w K mg base 3 "want_known" ["thing"] [] spWantKnown)
    (U4 : UseM P w K mg base 2 (cB K) "held_moves" ["self", "keeper", "known"] [] (spHeldMoves K)) (U5 : Use P w K mg base 1 "runs_of" ["moves"] [] spRunsOf) (U6 : UseC P w K mg base 2 "Stretch" (cS K) ["self", "first", "last"] [] (spSInit K)) :
    FnOk P w K mg base CX0 4 f fd ["book", "keeper", "known"] (spTurns K) := by
  refine F.ok scTurns (fun vs H Q E h => ?_) (fun cdv A outer s H vs Q E hr h => ?_)
  · obtain ⟨b, n, k, rfl, _⟩ := h; rfl
  · obtain ⟨b, n, k, rfl, B, lm, hn, hk, hok, q⟩ := h
    refine ⟨_, PSs.nox (pss_cons (ps_expr (pe_useM (pv 0) T.clB U1 (hr.mono (by decide)) (pa_cons (pv 1) pa_nil)))
      (pss_cons (ps_expr (pe_use U3 hr (by rfl) (pa_cons (pv 2) pa_nil)))
      (pss_cons (ps_set (i := 3) scTurns.nd rfl (Or.inl rfl) (pe_use U5 (hr.mono (by decide)) (by rfl) (pa_cons (pe_useM (pv 0) T.clB U4 (hr.mono (by decide)) (pa_cons (pv 1) (pa_cons (pv 2) pa_nil))) pa_nil)))
      (pss_cons (ps_set (i := 4) scTurns.nd rfl (Or.inl rfl) (pe_lst pa_nil))
      (pss_cons (ps_for PassesOwn.never rfl (pi_enum (by rfl) T.enumerate (pa_cons (pv 3) pa_nil))
          (pg_tup rfl (pgs_cons (pg_name (i := 5) scTurns.nd rfl (Or.inl rfl)) (pgs_cons (pg_tup rfl (pgs_cons (pg_name (i := 6) scTurns.nd rfl (Or.inl rfl)) (pgs_cons (pg_name (i := 7) scTurns.nd rfl (Or.inl rfl)) pgs_nil))) pgs_nil)))
          (pss_cons (ps_set (i := 8) scTurns.nd rfl (Or.inl rfl) pe_non)
          (pss_cons (ps_if (pt_cmpR op_lt (pe_add (pv 5) pe_int) (pe_callB call_len_seq (by rfl) T.len PySem.boot_len (pa_cons (pv 3) pa_nil)) (nomark _))
            (pss_one (ps_set (i := 8) scTurns.nd rfl (Or.inl rfl) (pe_sub (pe_ix ix_tup (pe_ix ix_list (pv 3) (pe_add (pv 5) pe_int) (fun _ _ => rfl)) pe_int (fun _ _ => rfl)) pe_int))) pss_nil)
          (pss_one (ps_expr (pe_bm PySem.F.plainAttrs_list PySem.F.slot_list_append PySem.F.type_list_append mt_append (pv 4) (pa_cons (pe_tup (pa_cons (pv 6) (pa_cons (pe_useC U6 hr (by rfl) (pa_cons (pv 7) (pa_cons (pv 8) pa_nil))) pa_nil))) pa_nil)))))))
      (pss_one (ps_ret (pv 4)))))))), ?_⟩
    obtain ⟨dx, hp⟩ := B.ob
    refine ⟨_, rfl, b.p, dx, _, rfl, hp, fB_wk _ _ _ _, _, rfl, b, n, rfl, B, hn, ?_⟩
    refine ⟨_, rfl, k, rfl, hk, ?_⟩
    refine ⟨_, rfl, b.p, dx, _, rfl, hp, fB_hm _ _ _ _, _, rfl, _, rfl, b, n, k, rfl, B, lm, fun H1 l ts sm1 fl hl hrw => ?_⟩
    have lh : (held V.str k n b.M).length ≤ 60 := Nat.le_trans (held_len _ _ _ _) lm
    generalize held V.str k n b.M = mv at *
    refine ⟨l, ts, mv, rfl, hl, hrw, lh, fun H2 G gs sm2 fG hG hgs => ?_⟩
    have lr := runsF_len mv
    generalize runsF mv = runs at *
    have lg : gs.length = runs.length := by have := Paired.length hgs; rw [List.length_map] at this; exact this
    refine ⟨by decide, fun F hF => ?_⟩
    have s3 : Same H2 (L2.upd H2 F (.lst [])) := same_upd hF
    have fF : H F = none := sm1.free (sm2.free hF)
    refine ⟨_, rfl, G, _, rfl, SqL.of (s3 _ _ hG), for_it walk_enum (fun i σ H3 => Same H2 H3 ∧ (∃ ts : List Addr, H3 F = some (.lst (ts.map V.ref)) ∧ Paired (TurnAt K H3) ts ((turnsF runs).take i)) ∧
      ∃ a1 a2 a3 a4, σ = [some (.ref b.p), some (.str n), some (vK k), some (.ref G), some (.ref F), a1, a2, a3, a4]) ⟨s3, ⟨[], upd_same, .nil⟩, none, none, none, none, rfl⟩ (fun i σ H3 _ h => SqL.of (h.1 _ _ hG)) ?_ ?_⟩
    · rintro i x σ H3 H4 hi ⟨sm, ⟨us, hF3, hus⟩, a1, a2, a3, a4, rfl⟩ ⟨t, x1, y1, rfl, nt, rfl, e1, e2⟩
      rw [List.length_map, lg] at hi
      cases e1
      obtain ⟨g, hg1, hg2⟩ := rws_at hgs hi
      dsimp only at e2
      rw [List.getElem?_map, hg1] at e2
      cases e2
      have eT : (turnsF runs).take (i + 1) = (turnsF runs).take i ++ [turnX runs i runs[i]] := by
        unfold turnsF
        rw [List.take_add_one, List.getElem?_mapIdx, List.getElem?_eq_getElem hi]
        rfl
      have lu : us.length = i := by
        have h1 := Paired.length hus
        rw [List.length_take] at h1
        unfold turnsF at h1
        rw [List.length_mapIdx] at h1
        omega
      have s4 : Same H3 (L2.upd H3 t (.tup [.int (i : Nat), .ref g])) := same_upd nt
      have hF4 : (L2.upd H3 t (.tup [.int (i : Nat), .ref g])) F = some (.lst (us.map V.ref)) := s4 _ _ hF3
      have hus4 : Paired (TurnAt K (L2.upd H3 t (.tup [.int (i : Nat), .ref g]))) us ((turnsF runs).take i) := Paired.mapP hus fun a b h => h.keep fun c o e _ => s4 c o e
      have sm4 : Same H2 (L2.upd H3 t (.tup [.int (i : Nat), .ref g])) := sm.trans s4
      have ht4 : (L2.upd H3 t (.tup [.int (i : Nat), .ref g])) t = some (.tup [.int (i : Nat), .ref g]) := upd_same
      generalize L2.upd H3 t (.tup [.int (i : Nat), .ref g]) = H4 at *
      refine ⟨t, _, rfl, SqT.of ht4, rfl, _, _, rfl, _, _, rfl, g, _, rfl, SqT.of (sm4 _ _ hg2), rfl, _, _, rfl, _, _, rfl, rfl, rfl, ?_⟩
      refine ⟨_, rfl, (i : Int), 1, rfl, rfl, _, rfl, G, _, rfl, .inl (SqL.of (sm4 _ _ hG)), _, _, rfl, rfl, _, rfl, ?_⟩
      rw [List.length_map, lg]
      cases hq : runs[i + 1]? with
      | none =>
        have hle := List.getElem?_eq_none_iff.mp hq
        refine ifF (by omega) ?_
        have tupX : turnX runs i runs[i] = (runs[i].1, runs[i].2, (none : Option Int)) := by unfold turnX; rw [hq]; rfl
        refine ⟨_, rfl, .inl ⟨rfl, _, SqL.of hF4⟩, _, rfl, _, rfl, _, rfl, fun x dx' hx hdx nx => ?_⟩
        refine ⟨x, dx', runs[i].2, (none : Option Int), rfl, upd_same, hok.1 _ (List.getElem_mem hi), trivial, fun o => ⟨rfl, ?_⟩⟩
        refine ⟨Nat.le_of_lt (sz63 (by show 2 ≤ 64; decide)), fun t1 h1 => ?_⟩
        have nxt : x ≠ t1 := fun z => by rw [← z, upd_same] at h1; cases h1
        have nxF : F ≠ x := ne_of_none hF4 hx
        have off : ∀ c o', H4 c = some o' → c ≠ F → (L2.upd (L2.upd (L2.upd (L2.upd (L2.upd (L2.upd H4 dx' (.own x)) x (.ins (cS K) dx' [])) x o) x (.ins (cS K) dx' (fldsS (.int runs[i].2) (vK (none : Option Int))))) t1 (.tup [.str runs[i].1, .ref x])) F (.lst (us.map V.ref ++ [.ref t1]))) c = some o' := fun c o' h hc => by
          have c1 : c ≠ x := ne_of_none h hx
          have c2 : c ≠ dx' := ne_of_none h hdx
          have c3 : c ≠ t1 := fun z => by rw [← z, upd_ne c1, upd_ne c1, upd_ne c1, upd_ne c2, h] at h1; cases h1
          rw [upd_ne hc, upd_ne c3, upd_ne c1, upd_ne c1, upd_ne c1, upd_ne c2]
          exact h
        have nFt : F ≠ t1 := fun z => by rw [← z, upd_ne nxF, upd_ne nxF, upd_ne nxF, upd_ne (ne_of_none hF4 hdx), hF4] at h1; cases h1
        have nFd : F ≠ dx' := ne_of_none hF4 hdx
        refine ⟨F, _, _, rfl, rfl, by rw [upd_ne nFt, upd_ne nxF, upd_ne nxF, upd_ne nxF, upd_ne nFd]; exact hF4, by rw [List.length_map]; exact sz63 (by omega), ?_⟩
        refine ⟨fun c o' h => off c o' (sm4 c o' h) (ne_of_none h hF), ⟨us ++ [t1], by rw [upd_same, List.map_append]; rfl, ?_⟩, some (.int (i : Nat)), some (.str runs[i].1), some (.int runs[i].2), some (vK (none : Option Int)), rfl⟩
        rw [eT]
        refine paired_append (Paired.mapP hus4 fun a b h => h.keep fun c o' e no => off c o' e (fun z => no _ (Option.some.inj ((z ▸ e).symm.trans hF4)))) (.cons ⟨x, dx', ?_, ?_⟩ .nil)
        · rw [upd_ne nFt.symm, upd_same]
          rfl
        · rw [upd_ne nxF.symm, upd_ne nxt, upd_same, tupX]
      | some r2 =>
        obtain ⟨hlt, hr2⟩ := List.getElem?_eq_some_iff.mp hq
        refine ifT (by omega) ?_
        obtain ⟨g2, hg21, hg22⟩ := rws_at hgs hlt
        rw [hr2] at hg22
        refine ⟨_, rfl, _, rfl, (i : Int), 1, rfl, rfl, G, _, _, .ref g2, rfl, rfl, SqL.of (sm4 _ _ hG), atI_nat (j := i + 1) (by rw [List.getElem?_map, hg21]; rfl), g2, _, _, .int r2.2, rfl, rfl, SqT.of (sm4 _ _ hg22), atI_nat (j := 1) rfl, r2.2, 1, rfl, rfl, ?_⟩
        have lok : LastOk runs[i].2 (some (r2.2 - 1)) := by
          have h2 := List.pairwise_iff_getElem.mp hok.2 i (i + 1) hi hlt (Nat.lt_succ_self i)
          rw [hr2] at h2
          show runs[i].2 ≤ r2.2 - 1
          omega
        have tupX : turnX runs i runs[i] = (runs[i].1, runs[i].2, (some (r2.2 - 1))) := by unfold turnX; rw [hq]; rfl
        refine ⟨_, rfl, .inl ⟨rfl, _, SqL.of hF4⟩, _, rfl, _, rfl, _, rfl, fun x dx' hx hdx nx => ?_⟩
        refine ⟨x, dx', runs[i].2, (some (r2.2 - 1)), rfl, upd_same, hok.1 _ (List.getElem_mem hi), lok, fun o => ⟨rfl, ?_⟩⟩
        refine ⟨Nat.le_of_lt (sz63 (by show 2 ≤ 64; decide)), fun t1 h1 => ?_⟩
        have nxt : x ≠ t1 := fun z => by rw [← z, upd_same] at h1; cases h1
        have nxF : F ≠ x := ne_of_none hF4 hx
        have off : ∀ c o', H4 c = some o' → c ≠ F → (L2.upd (L2.upd (L2.upd (L2.upd (L2.upd (L2.upd H4 dx' (.own x)) x (.ins (cS K) dx' [])) x o) x (.ins (cS K) dx' (fldsS (.int runs[i].2) (vK (some (r2.2 - 1)))))) t1 (.tup [.str runs[i].1, .ref x])) F (.lst (us.map V.ref ++ [.ref t1]))) c = some o' := fun c o' h hc => by
          have c1 : c ≠ x := ne_of_none h hx
          have c2 : c ≠ dx' := ne_of_none h hdx
          have c3 : c ≠ t1 := fun z => by rw [← z, upd_ne c1, upd_ne c1, upd_ne c1, upd_ne c2, h] at h1; cases h1
          rw [upd_ne hc, upd_ne c3, upd_ne c1, upd_ne c1, upd_ne c1, upd_ne c2]
          exact h
        have nFt : F ≠ t1 := fun z => by rw [← z, upd_ne nxF, upd_ne nxF, upd_ne nxF, upd_ne (ne_of_none hF4 hdx), hF4] at h1; cases h1
        have nFd : F ≠ dx' := ne_of_none hF4 hdx
        refine ⟨F, _, _, rfl, rfl, by rw [upd_ne nFt, upd_ne nxF, upd_ne nxF, upd_ne nxF, upd_ne nFd]; exact hF4, by rw [List.length_map]; exact sz63 (by omega), ?_⟩
        refine ⟨fun c o' h => off c o' (sm4 c o' h) (ne_of_none h hF), ⟨us ++ [t1], by rw [upd_same, List.map_append]; rfl, ?_⟩, some (.int (i : Nat)), some (.str runs[i].1), some (.int runs[i].2), some (vK (some (r2.2 - 1))), rfl⟩
        rw [eT]
        refine paired_append (Paired.mapP hus4 fun a b h => h.keep fun c o' e no => off c o' e (fun z => no _ (Option.some.inj ((z ▸ e).symm.trans hF4)))) (.cons ⟨x, dx', ?_, ?_⟩ .nil)
        · rw [upd_ne nFt.symm, upd_same]
          rfl
        · rw [upd_ne nxF.symm, upd_ne nxt, upd_same, tupX]
    · rintro σ H3 ⟨sm, ⟨us, hF3, hus⟩, a1, a2, a3, a4, rfl⟩
      have lT : (turnsF runs).length = runs.length := List.length_mapIdx
      rw [List.length_map, lg, ← lT, List.take_length] at hus
      exact ⟨_, rfl, q _ F us ((sm1.trans sm2).trans sm) fF hF3 hus⟩
end
end LT
namespace LT
open PySem PySem.Spec PyProof.Rows L2
/-! ### who is at a place: plain -/
def row3 (e : Int × Int × Str) : List V := [.int e.1, .int e.2.1, .str e.2.2]
def chargeU (M : Tb Str) (pl : Str) (d : Int) (k : Option Int) (R : List (Str × Int)) : List (Int × Int × Str) := R.filterMap fun e => if (turnOnF (runsF (held V.str k e.1 M)) d).1 = pl then some (e.2, (turnOnF (runsF (held V.str k e.1 M)) d).2, e.1) else none
def chargeF (R : List (Str × Int)) (M : Tb Str) (pl : Str) (d : Int) (k : Option Int) : List (Int × Int × Str) := srt row3 (chargeU M pl d k R)
theorem chargeU_snoc (M : Tb Str) (pl : Str) (d : Int) (k : Option Int) (R : List (Str × Int)) (e : Str × Int) : chargeU M pl d k (R ++ [e]) = chargeU M pl d k R ++ (if (turnOnF (runsF (held V.str k e.1 M)) d).1 = pl then [(e.2, (turnOnF (runsF (held V.str k e.1 M)) d).2, e.1)] else []) := by
  unfold chargeU
  rw [List.filterMap_append]
  congr 1
  by_cases h : (turnOnF (runsF (held V.str k e.1 M)) d).1 = pl
  · simp [h]
  · simp [h]
theorem chargeU_len (M : Tb Str) (pl : Str) (d : Int) (k : Option Int) (R : List (Str × Int)) : (chargeU M pl d k R).length ≤ R.length := List.length_filterMap_le _ _
section
variable {P : Program} {w : World} {K : PySem.W.Frag} {mg : Str → Option Value} {base : Heap} {f : Addr} {fd : FuncData}
def spTurnOn (K : PySem.W.Frag) : Sp := fun vs H Q _ => ∃ (b : Bk) (n : Str) (d : Int) (k : Option Int), vs = [.ref b.p, .str n, .int d, vK k] ∧ BookAt K H b ∧ b.M.length ≤ 60 ∧
  ∀ (H' : Hp) (t : Addr), Same H H' → H' t = some (.tup (rowR (turnOnF (runsF (held V.str k n b.M)) d))) → Q (.ref t) H'
theorem scTurnOn : FnScope ["book", "keeper", "day", "known", "found", "place", "first"] ["book", "keeper", "day", "known"] (defScope sTurnOn) := ⟨rfl, rfl, rfl, by decide +kernel, rfl, by decide +kernel, by decide +kernel⟩
theorem okTurnOn (F : FnP K "turn_on" "turn_on" sTurnOn [] f fd) (T : Tx K mg) (U4 : UseM P w K mg base 2 (cB K) "held_moves" ["self", "keeper", "known"] [] (spHeldMoves K)) (U5 : Use P w K mg base 1 "runs_of" ["moves"] [] spRunsOf) :
    FnOk P w K mg base CX0 3 f fd ["book", "keeper", "day", "known"] (spTurnOn K) := by
  refine F.ok scTurnOn (fun vs H Q E h => ?_) (fun cdv A outer s H vs Q E hr h => ?_)
  · obtain ⟨b, n, d, k, rfl, _⟩ := h; rfl
  · obtain ⟨b, n, d, k, rfl, B, lm, q⟩ := h
    refine ⟨_, PSs.nox (pss_cons (ps_set (i := 4) scTurnOn.nd rfl (Or.inl rfl) (pe_tup (pa_cons (pe_gS T.ASHORE (by rfl)) (pa_cons pe_int pa_nil))))
      (pss_cons (ps_for PassesOwn.never rfl (pi_list (pe_use U5 (hr.mono (by decide)) (by rfl) (pa_cons (pe_useM (pv 0) T.clB U4 (hr.mono (by decide)) (pa_cons (pv 1) (pa_cons (pv 3) pa_nil))) pa_nil)))
          (pg_tup rfl (pgs_cons (pg_name (i := 5) scTurnOn.nd rfl (Or.inl rfl)) (pgs_cons (pg_name (i := 6) scTurnOn.nd rfl (Or.inl rfl)) pgs_nil)))
          (pss_one (ps_if (pt_cmpR op_le (pv 6) (pv 2) (nomark _)) (pss_one (ps_set (i := 4) scTurnOn.nd rfl (Or.inl rfl) (pe_tup (pa_cons (pv 5) (pa_cons (pv 6) pa_nil))))) pss_nil)))
      (pss_one (ps_ret (pv 4))))), ?_⟩
    obtain ⟨dx, hp⟩ := B.ob
    refine ⟨Nat.le_of_lt (sz63 (by show 2 ≤ 64; decide)), fun t0 ht0 => ?_⟩
    have s0 : Same H (L2.upd H t0 (.tup [.str "", .int 0])) := same_upd ht0
    have e0 : (L2.upd H t0 (.tup [.str "", .int 0])) t0 = some (.tup (rowR (turnOnF [] d))) := upd_same
    generalize L2.upd H t0 (.tup [.str "", .int 0]) = H0 at *
    refine ⟨_, rfl, b.p, dx, _, rfl, s0 _ _ hp, fB_hm _ _ _ _, _, rfl, _, rfl, b, n, k, rfl, B.same s0, lm, fun H1 l ts sm1 fl hl hrw => ?_⟩
    have lh : (held V.str k n b.M).length ≤ 60 := Nat.le_trans (held_len _ _ _ _) lm
    generalize held V.str k n b.M = mv at *
    refine ⟨l, ts, mv, rfl, hl, hrw, lh, fun H2 G gs sm2 fG hG hgs => ?_⟩
    generalize runsF mv = runs at *
    have lg : gs.length = runs.length := by have := Paired.length hgs; rw [List.length_map] at this; exact this
    refine ⟨G, rfl, ⟨_, SqL.of hG⟩, for_it (walk_list (xs := gs.map V.ref)) (fun i σ H3 => Same H2 H3 ∧ ∃ t, H3 t = some (.tup (rowR (turnOnF (runs.take i) d))) ∧ ∃ a1 a2, σ = [some (.ref b.p), some (.str n), some (.int d), some (vK k), some (.ref t), a1, a2])
      ⟨Same.refl _, t0, sm2 _ _ (sm1 _ _ e0), none, none, rfl⟩ (fun i σ H3 _ h => SqL.of (h.1 _ _ hG)) ?_ ?_⟩
    · rintro i x σ H3 H4 hi ⟨sm, t, ht, a1, a2, rfl⟩ ⟨e4, hx⟩
      subst e4
      rw [List.length_map, lg] at hi
      obtain ⟨g, hg1, hg2⟩ := rws_at hgs hi
      rw [List.getElem?_map, hg1] at hx
      cases hx
      have nx : turnOnF (runs.take (i + 1)) d = if runs[i].2 ≤ d then runs[i] else turnOnF (runs.take i) d := by rw [List.take_succ_eq_append_getElem hi, turnOnF_snoc]
      refine ⟨g, _, rfl, SqT.of (sm _ _ hg2), rfl, _, _, rfl, _, _, rfl, rfl, ?_⟩
      refine ⟨_, rfl, _, rfl, _, _, rfl, rfl, _, rfl, ?_⟩
      by_cases hd : runs[i].2 ≤ d
      · rw [if_pos hd] at nx
        refine ifT hd ⟨_, rfl, _, rfl, Nat.le_of_lt (sz63 (by show 2 ≤ 64; decide)), fun t1 h1 => ⟨sm.trans (same_upd h1), t1, ?_, some (.str runs[i].1), some (.int runs[i].2), rfl⟩⟩
        rw [upd_same, nx]
        rfl
      · rw [if_neg hd] at nx
        exact ifF hd ⟨sm, t, by rw [nx]; exact ht, some (.str runs[i].1), some (.int runs[i].2), rfl⟩
    · rintro σ H3 ⟨sm, t, ht, a1, a2, rfl⟩
      rw [List.length_map, lg, List.take_length] at ht
      exact ⟨_, rfl, q _ t (((s0.trans sm1).trans sm2).trans sm) ht⟩
def spWantPlace : Sp := fun vs H Q _ => ∃ z : Str, vs = [.str z] ∧ IsPl z ∧ ∀ H', Same H H' → Q .non H'
theorem scWantPlace : FnScope ["thing"] ["thing"] (defScope sWantPlace) := ⟨rfl, rfl, rfl, by decide +kernel, rfl, by decide +kernel, by decide +kernel⟩
theorem okWantPlace (F : FnP K "want_place" "want_place" sWantPlace [] f fd) (U : Use P w K mg base 2 "is_place" ["thing"] [] spIsPlace) : FnOk P w K mg base CX0 3 f fd ["thing"] spWantPlace := by
  refine F.ok scWantPlace (fun vs H Q E h => ?_) (fun cdv A outer s H vs Q E hr h => ?_)
  · obtain ⟨i, rfl, _⟩ := h; rfl
  · obtain ⟨i, rfl, h0, q⟩ := h
    refine ⟨_, PSs.nox (pss_one (ps_if (pt_not (pt_val (pe_use U hr (by rfl) (pa_cons (pv 0) pa_nil)))) (pss_one ps_never) pss_nil)), ?_⟩
    refine ⟨_, rfl, i, rfl, h0, fun H1 s1 => ⟨true, rfl, ?_⟩⟩
    exact iteF (q _ s1)
def spWantAsked : Sp := fun vs H Q _ => ∃ (z : Str) (d : Int) (k : Option Int), vs = [.str z, .int d, vK k] ∧ IsPl z ∧ 0 ≤ d ∧ KOk k ∧ ∀ H', Same H H' → Q .non H'
theorem scWantAsked : FnScope ["place", "day", "known"] ["place", "day", "known"] (defScope sWantAsked) := ⟨rfl, rfl, rfl, by decide +kernel, rfl, by decide +kernel, by decide +kernel⟩
theorem okWantAsked (F : FnP K "want_asked" "want_asked" sWantAsked [] f fd) (U1 : Use P w K mg base 3 "want_place" ["thing"] [] spWantPlace) (U2 : Use P w K mg base 2 "want_day" ["thing"] [] spWantDay) (U3 : Use P w K mg base 3 "want_known" ["thing"] [] spWantKnown) :
    FnOk P w K mg base CX0 4 f fd ["place", "day", "known"] spWantAsked := by
  refine F.ok scWantAsked (fun vs H Q E h => ?_) (fun cdv A outer s H vs Q E hr h => ?_)
  · obtain ⟨z, d, k, rfl, _⟩ := h; rfl
  · obtain ⟨z, d, k, rfl, hz, hd, hk, q⟩ := h
    refine ⟨_, PSs.nox (pss_cons (ps_expr (pe_use U1 hr (by rfl) (pa_cons (pv 0) pa_nil))) (pss_cons (ps_expr (pe_use U2 (hr.mono (by decide)) (by rfl) (pa_cons (pv 1) pa_nil))) (pss_one (ps_expr (pe_use U3 hr (by rfl) (pa_cons (pv 2) pa_nil)))))), ?_⟩
    exact ⟨_, rfl, z, rfl, hz, fun H1 s1 => ⟨_, rfl, d, rfl, hd, _, rfl, k, rfl, hk, q _ s1⟩⟩
/-! ### charge_rows, keepers_at -/
def spChargeRows (K : PySem.W.Frag) : Sp := fun vs H Q _ => ∃ (b : Bk) (z : Str) (d : Int) (k : Option Int), vs = [.ref b.p, .str z, .int d, vK k] ∧ BookAt K H b ∧ b.M.length ≤ 60 ∧ b.R.length ≤ 30 ∧
  ∀ (H' : Hp) (l : Addr) (ts : List Addr), Same H H' → H l = none → H' l = some (.lst (ts.map V.ref)) → Rws H' ts ((chargeF b.R b.M z d k).map row3) → Q (.ref l) H'
theorem scChargeRows : FnScope ["book", "place", "day", "known", "found", "name", "rank", "own", "since"] ["book", "place", "day", "known"] (defScope sChargeRows) := ⟨rfl, rfl, rfl, by decide +kernel, rfl, by decide +kernel, by decide +kernel⟩
theorem fB_rk (dR dM dL : Addr) (tl : V) : (fldsB dR dM dL tl).lookup ("ranks" : Str) = none := fldsB_no _ _ _ _ (by decide +kernel) (by decide +kernel) (by decide +kernel) (by decide +kernel)
theorem okChargeRows (F : FnP K "charge_rows" "charge_rows" sChargeRows [] f fd) (T : Tx K mg) (U1 : UseM P w K mg base 1 (cB K) "ranks" ["self"] [] (spBRanks K)) (U2 : Use P w K mg base 3 "turn_on" ["book", "keeper", "day", "known"] [] (spTurnOn K)) :
    FnOk P w K mg base CX0 4 f fd ["book", "place", "day", "known"] (spChargeRows K) := by
  refine F.ok scChargeRows (fun vs H Q E h => ?_) (fun cdv A outer s H vs Q E hr h => ?_)
  · obtain ⟨b, z, d, k, rfl, _⟩ := h; rfl
  · obtain ⟨b, z, d, k, rfl, B, lm, l30, q⟩ := h
    refine ⟨_, PSs.nox (pss_cons (ps_set (i := 4) scChargeRows.nd rfl (Or.inl rfl) (pe_lst pa_nil))
      (pss_cons (ps_for PassesOwn.never rfl (pi_itemsF (pe_useM0 (pv 0) T.clB U1 (hr.mono (by decide))))
          (pg_tup rfl (pgs_cons (pg_name (i := 5) scChargeRows.nd rfl (Or.inl rfl)) (pgs_cons (pg_name (i := 6) scChargeRows.nd rfl (Or.inl rfl)) pgs_nil)))
        (pss_cons (ps_asg (pe_use U2 hr (by rfl) (pa_cons (pv 0) (pa_cons (pv 5) (pa_cons (pv 2) (pa_cons (pv 3) pa_nil))))) (pg_tup rfl (pgs_cons (pg_name (i := 7) scChargeRows.nd rfl (Or.inl rfl)) (pgs_cons (pg_name (i := 8) scChargeRows.nd rfl (Or.inl rfl)) pgs_nil))))
        (pss_one (ps_if (pt_cmpR op_eq (pv 7) (pv 1) (nomark _)) (pss_one (ps_expr (pe_bm PySem.F.plainAttrs_list PySem.F.slot_list_append PySem.F.type_list_append mt_append (pv 4) (pa_cons (pe_tup (pa_cons (pv 6) (pa_cons (pv 8) (pa_cons (pv 5) pa_nil)))) pa_nil)))) pss_nil))))
      (pss_one (ps_ret (pe_callB (cr_sortM row3 hr.units) (by rfl) T.sorted (by decide +kernel) (pa_cons (pv 4) pa_nil)))))), ?_⟩
    obtain ⟨dx, hp⟩ := B.ob
    refine ⟨by decide, fun F0 hF => ?_⟩
    have s0 : Same H (L2.upd H F0 (.lst [])) := same_upd hF
    have e0 : (L2.upd H F0 (.lst [])) F0 = some (.lst []) := upd_same
    generalize L2.upd H F0 (.lst []) = H0 at *
    refine ⟨_, rfl, b.p, dx, _, rfl, s0 _ _ hp, fB_rk _ _ _ _, b, rfl, B.same s0, fun D hD => ⟨D, kvR b.R, rfl, upd_same, fun o => ?_⟩⟩
    have sD : Same H0 (L2.upd (L2.upd H0 D (.dK (kvR b.R))) D (.frz o (.dK (kvR b.R)))) := fun c o' e => by
      have n := ne_of_none e hD
      rw [upd_ne n, upd_ne n]
      exact e
    have eD : (L2.upd (L2.upd H0 D (.dK (kvR b.R))) D (.frz o (.dK (kvR b.R)))) D = some (.frz o (.dK (kvR b.R))) := upd_same
    generalize L2.upd (L2.upd H0 D (.dK (kvR b.R))) D (.frz o (.dK (kvR b.R))) = H1 at *
    have lk : (kvR b.R).length = b.R.length := List.length_map ..
    refine for_it walk_items (fun i σ H2 => Same H H2 ∧ H2 D = some (.frz o (.dK (kvR b.R))) ∧ (∃ ts : List Addr, H2 F0 = some (.lst (ts.map V.ref)) ∧ Rws H2 ts ((chargeU b.M z d k (b.R.take i)).map row3)) ∧
      ∃ a1 a2 a3 a4, σ = [some (.ref b.p), some (.str z), some (.int d), some (vK k), some (.ref F0), a1, a2, a3, a4]) ⟨s0.trans sD, eD, ⟨[], sD _ _ e0, .nil⟩, none, none, none, none, rfl⟩ (fun i σ H2 _ h => h.2.1) ?_ ?_
    · rintro i x σ H2 H3 hi ⟨sm, hD2, ⟨ts, hts, hrw⟩, a1, a2, a3, a4, rfl⟩ ⟨t, x1, y1, rfl, nt, rfl, e1, e2⟩
      have hi2 : i < b.R.length := by omega
      have he : (kvR b.R)[i]? = some (.inr b.R[i].1, .int b.R[i].2) := by
        unfold kvR
        rw [List.getElem?_map, List.getElem?_eq_getElem hi2]
        rfl
      dsimp only at e1 e2
      rw [he] at e1 e2
      cases e1
      cases e2
      have nx : chargeU b.M z d k (b.R.take (i + 1)) = chargeU b.M z d k (b.R.take i) ++ (if (turnOnF (runsF (held V.str k b.R[i].1 b.M)) d).1 = z then [(b.R[i].2, (turnOnF (runsF (held V.str k b.R[i].1 b.M)) d).2, b.R[i].1)] else []) := by
        rw [List.take_succ_eq_append_getElem hi2, chargeU_snoc]
      have lt : ts.length = (chargeU b.M z d k (b.R.take i)).length := by have := Paired.length hrw; rw [List.length_map] at this; exact this
      have lc := chargeU_len b.M z d k (b.R.take i)
      rw [List.length_take] at lc
      have s3 : Same H2 (L2.upd H2 t (.tup [kV (.inr b.R[i].1), .int b.R[i].2])) := same_upd nt
      refine ⟨t, _, rfl, SqT.of upd_same, rfl, _, _, rfl, _, _, rfl, rfl, ?_⟩
      refine ⟨_, rfl, _, rfl, _, rfl, _, rfl, b, b.R[i].1, d, k, rfl, B.same (sm.trans s3), lm, fun H4 t4 s4 ht4 => ?_⟩
      have s24 := s3.trans s4
      have hts4 := s24 _ _ hts
      have hrw4 : Rws H4 ts ((chargeU b.M z d k (b.R.take i)).map row3) := Rws.keep hrw fun c x h => s24 _ _ h
      have hD4 := s24 _ _ hD2
      have sm4 := sm.trans s24
      generalize turnOnF (runsF (held V.str k b.R[i].1 b.M)) d = R at *
      refine ⟨t4, _, rfl, SqT.of ht4, rfl, _, _, rfl, _, _, rfl, rfl, ?_⟩
      refine ⟨_, rfl, _, rfl, rfl, _, rfl, ?_⟩
      by_cases hz : R.1 = z
      · rw [if_pos hz] at nx
        refine ifT (by rw [hz]) ?_
        refine ⟨_, rfl, .inl ⟨rfl, _, SqL.of hts4⟩, _, rfl, _, rfl, _, rfl, Nat.le_of_lt (sz63 (by show 3 ≤ 64; decide)), fun t1 h1 => ?_⟩
        have n1 : F0 ≠ t1 := ne_of_none hts4 h1
        refine ⟨F0, _, _, rfl, rfl, by rw [upd_ne n1]; exact hts4, by rw [List.length_map]; exact sz63 (by omega), ?_⟩
        have k1 : ∀ c o', H4 c = some o' → c ≠ F0 → (L2.upd (L2.upd H4 t1 (.tup [.int b.R[i].2, .int R.2, .str b.R[i].1])) F0 (.lst (ts.map V.ref ++ [.ref t1]))) c = some o' := fun c o' h hn => by
          rw [upd_ne hn, upd_ne (ne_of_none h h1)]
          exact h
        refine ⟨fun c o' h => k1 c o' (sm4 c o' h) (ne_of_none h hF), k1 _ _ hD4 (ne_of hD4 hts4 (by intro z; cases z)), ⟨ts ++ [t1], by rw [upd_same, List.map_append]; rfl, ?_⟩, some (.str b.R[i].1), some (.int b.R[i].2), some (.str R.1), some (.int R.2), rfl⟩
        rw [nx, List.map_append]
        refine paired_append (Rws.keep hrw4 fun c x h => k1 c _ h (ne_of h hts4 (by intro z; cases z))) (.cons ?_ .nil)
        rw [upd_ne n1.symm, upd_same]
        rfl
      · rw [if_neg hz, List.append_nil] at nx
        refine ifF (fun y => hz (V.str.inj y)) ⟨sm4, hD4, ⟨ts, hts4, by rw [nx]; exact hrw4⟩, some (.str b.R[i].1), some (.int b.R[i].2), some (.str R.1), some (.int R.2), rfl⟩
    · rintro σ H2 ⟨sm, hD2, ⟨ts, hts, hrw⟩, a1, a2, a3, a4, rfl⟩
      rw [lk, List.take_length] at hrw
      refine ⟨_, rfl, F0, ts, chargeU b.M z d k b.R, isI, [isI, isS], rfl, SqL.of hts, hrw, ?_, ?_, fun p ts' hp r2 => ?_⟩
      · intro k' h
        rcases List.mem_cons.mp h with h | h
        · exact .inl h
        · rcases List.mem_cons.mp h with h | h
          · exact .inl h
          · exact .inr (List.mem_singleton.mp h)
      · intro x _
        exact .cons rfl (.cons rfl (.cons rfl .nil))
      · exact q _ p ts' (Same.upd sm hp) (sm.free hp) upd_same (Rws.keep r2 fun c x h => by rw [upd_ne (ne_of_none h hp)]; exact h)
def spKeepersAt (K : PySem.W.Frag) : Sp := fun vs H Q _ => ∃ (b : Bk) (z : Str) (d : Int) (k : Option Int), vs = [.ref b.p, .str z, .int d, vK k] ∧ BookAt K H b ∧ b.M.length ≤ 60 ∧ b.R.length ≤ 30 ∧ IsPl z ∧ 0 ≤ d ∧ KOk k ∧
  ∀ (H' : Hp) (l : Addr), Same H H' → H l = none → H' l = some (.lst ((chargeF b.R b.M z d k).map fun e => V.str e.2.2)) → Q (.ref l) H'
theorem scKeepersAt : FnScope ["book", "place", "day", "known", "rank", "since", "name"] ["book", "place", "day", "known"] (defScope sKeepersAt) := ⟨rfl, rfl, rfl, by decide +kernel, rfl, by decide +kernel, by decide +kernel⟩
theorem chargeF_len (R : List (Str × Int)) (M : Tb Str) (pl : Str) (d : Int) (k : Option Int) : (chargeF R M pl d k).length ≤ R.length := by
  unfold chargeF
  rw [(srt_perm row3 _).length_eq]
  exact chargeU_len ..
theorem okKeepersAt (F : FnP K "keepers_at" "keepers_at" sKeepersAt [.non] f fd) (T : Tx K mg) (U1 : Use P w K mg base 4 "want_asked" ["place", "day", "known"] [] spWantAsked) (U2 : Use P w K mg base 4 "charge_rows" ["book", "place", "day", "known"] [] (spChargeRows K)) :
    FnOk P w K mg base CX0 5 f fd ["book", "place", "day", "known"] (spKeepersAt K) := by
  refine F.ok scKeepersAt (fun vs H Q E h => ?_) (fun cdv A outer s H vs Q E hr h => ?_)
  · obtain ⟨b, z, d, k, rfl, _⟩ := h; rfl
  · obtain ⟨b, z, d, k, rfl, B, lm, l30, hz, hd, hk, q⟩ := h
    refine ⟨_, PSs.nox (pss_cons (ps_expr (pe_use U1 hr (by rfl) (pa_cons (pv 1) (pa_cons (pv 2) (pa_cons (pv 3) pa_nil)))))
      (pss_one (ps_ret (pe_lc (own := [("rank", 4), ("since", 5), ("name", 6)]) (g := gTup K 3 (gCons (gName 4) (gCons (gName 5) (gCons (gName 6) gNil)))) (tt := tYes) rfl scKeepersAt.nd
        (pi_list (pe_use U2 hr (by rfl) (pa_cons (pv 0) (pa_cons (pv 1) (pa_cons (pv 2) (pa_cons (pv 3) pa_nil)))))) (blkOk_by (N := ["book", "place", "day", "known", "rank", "since", "name"]) (sc := defScope sKeepersAt) (by decide +kernel))
        (fun _ _ _ _ _ => pg_tup rfl (pgs_cons (pg_name (i := 4) scKeepersAt.nd rfl (Or.inl rfl)) (pgs_cons (pg_name (i := 5) scKeepersAt.nd rfl (Or.inl rfl)) (pgs_cons (pg_name (i := 6) scKeepersAt.nd rfl (Or.inl rfl)) pgs_nil))))
        (fun _ _ _ _ _ => pts_nil) (fun _ _ _ _ _ => pv 6))))), ?_⟩
    refine ⟨_, rfl, _, rfl, _, rfl, z, d, k, rfl, hz, hd, hk, fun H0 s0 => ?_⟩
    refine ⟨_, rfl, _, rfl, _, rfl, _, rfl, b, z, d, k, rfl, B.same s0, lm, l30, fun H1 l ts s1 fl hl hrw => ?_⟩
    have lc := chargeF_len b.R b.M z d k
    generalize chargeF b.R b.M z d k = cf at *
    have lt : ts.length = cf.length := by have := Paired.length hrw; rw [List.length_map] at this; exact this
    refine ⟨l, rfl, ⟨_, SqL.of hl⟩, fun D hD => lc_it (walk_list (xs := ts.map V.ref)) (fun i H2 => Same H1 H2 ∧ H2 D = some (.lst ((cf.take i).map fun e => V.str e.2.2))) ⟨same_upd hD, upd_same⟩ (fun _ _ _ h => SqL.of (h.1 _ _ hl)) ?_ ?_⟩
    · rintro i x H2 H3 hi ⟨sm2, hl2⟩ ⟨e3, hx⟩
      subst e3
      rw [List.length_map, lt] at hi
      obtain ⟨t, ht1, ht2⟩ := rws_at hrw hi
      rw [List.getElem?_map, ht1] at hx
      cases hx
      refine ⟨t, _, rfl, SqT.of (sm2 _ _ ht2), rfl, _, _, rfl, _, _, rfl, _, _, rfl, rfl, rfl, ?_⟩
      refine ⟨_, rfl, _, hl2, by rw [List.length_map, List.length_take]; exact sz63 (by omega), fun c o e => ?_, ?_⟩
      · rw [upd_ne (ne_of_none e hD)]
        exact sm2 c o e
      · rw [upd_same, List.take_succ_eq_append_getElem hi, List.map_append]
        rfl
    · rintro H2 ⟨sm2, hl2⟩
      rw [List.length_map, lt, List.take_length] at hl2
      exact q _ D ((s0.trans s1).trans sm2) ((s0.trans s1).free hD) hl2
end
end LT
namespace LT
open PySem PySem.Spec PyProof.Rows L2
/-! ### the pot -/
def PotAt (H : Hp) (p : Addr) : Prop := ∃ x y : Int, H p = some (.lst [.int x, .int y]) ∧ 0 ≤ y ∧ y < 2 ^ 31
section
variable {P : Program} {w : World} {K : PySem.W.Frag} {mg : Str → Option Value} {base : Heap} {f : Addr} {fd : FuncData}
def spPot (K : PySem.W.Frag) : Sp := fun vs H Q _ => ∃ (a : Addr) (ns : List Int) (k : Nat), vs = [.ref a, .int k] ∧ SqL K H a (ns.map V.int) ∧ k ≤ 60 ∧ ∀ (H' : Hp) (p : Addr), Same H H' → H p = none → PotAt H' p → Q (.ref p) H'
theorem scPot : FnScope ["_law_script", "_law_k", "_law_cell"] ["_law_script", "_law_k"] (defScope sLPot) := ⟨rfl, rfl, rfl, by decide +kernel, rfl, by decide +kernel, by decide +kernel⟩
theorem okPot (F : FnP K "_law_pot" "_law_pot" sLPot [] f fd) (T : Tx K mg) : FnOk P w K mg base CX0 1 f fd ["_law_script", "_law_k"] (spPot K) := by
  refine F.ok scPot (fun vs H Q E h => ?_) (fun cdv A outer s H vs Q E hr h => ?_)
  · obtain ⟨a, ns, k, rfl, _⟩ := h; rfl
  · obtain ⟨a, ns, k, rfl, ha, hk, q⟩ := h
    refine ⟨_, PSs.nox (pss_cons (ps_set (i := 2) scPot.nd rfl (Or.inl rfl) (pe_add (pe_mul pe_int (pv 1)) pe_int))
      (pss_cons (ps_if (pt_cmpR op_lt (pv 1) (pe_callB call_len_seq (by rfl) T.len PySem.boot_len (pa_cons (pv 0) pa_nil)) (nomark _)) (pss_one (ps_set (i := 2) scPot.nd rfl (Or.inl rfl) (pe_ix ix_list (pv 0) (pv 1) (fun _ _ => rfl)))) pss_nil)
      (pss_one (ps_ret (pe_lst (pa_cons (pe_callB (call_max2 rfl) (by rfl) T.max (by decide +kernel) (pa_cons pe_int (pa_cons (pe_sub (pe_callB call_abs (by rfl) T.abs (by decide +kernel) (pa_cons (pv 2) pa_nil)) (pe_op op_pow pe_int pe_int)) pa_nil)))
        (pa_cons (pe_add (pe_op op_mod (pe_mul (pe_add (pe_op op_mod (pe_callB call_abs (by rfl) T.abs (by decide +kernel) (pa_cons (pv 2) pa_nil)) pe_int) pe_int) (pe_op op_pow (pe_add (pv 1) pe_int) pe_int)) pe_int) pe_int) pa_nil))))))), ?_⟩
    refine ⟨_, rfl, 11, (k : Int), rfl, rfl, ⟨by decide, by decide⟩, 11 * (k : Int), 5, rfl, rfl, ?_⟩
    refine ⟨_, rfl, _, rfl, a, _, rfl, .inl (ha), (k : Int), _, rfl, rfl, _, rfl, ?_⟩
    rw [List.length_map]
    by_cases hlt : k < ns.length
    · refine ifT (by omega) ?_
      refine ⟨_, rfl, _, rfl, a, _, _, .int ns[k], rfl, rfl, ha, atI_nat (by rw [List.getElem?_map, List.getElem?_eq_getElem hlt]; rfl), ?_⟩
      refine ⟨_, rfl, ns[k], rfl, 10, 18, rfl, rfl, ⟨by decide, by decide, by decide⟩, _, _, rfl, rfl, _, _, rfl, ?_⟩
      refine ⟨_, rfl, ns[k], rfl, _, 2147483587, rfl, rfl, by show (0 : Int) < 2147483587; decide, _, 1, rfl, rfl, _, rfl, (k : Int), 2, rfl, rfl, _, 5, rfl, rfl, ⟨by decide, by decide, by omega⟩, _, _, rfl, rfl, ⟨by omega, by omega⟩, _, 2147483563, rfl, rfl, by show (0 : Int) < 2147483563; decide, _, 1, rfl, rfl, ?_⟩
      refine ⟨Nat.le_of_lt (sz63 (by show 2 ≤ 64; decide)), fun p hp => q _ p (same_upd hp) hp ⟨_, _, upd_same, ?_, ?_⟩⟩
      · have := Int.emod_nonneg (((if ns[k] < 0 then -ns[k] else ns[k]) % 2147483587 + 1) * ((k : Int) + 2) ^ (5 : Int).toNat) (show (2147483563 : Int) ≠ 0 by decide)
        omega
      · have := Int.emod_lt_of_pos (((if ns[k] < 0 then -ns[k] else ns[k]) % 2147483587 + 1) * ((k : Int) + 2) ^ (5 : Int).toNat) (show (0 : Int) < 2147483563 by decide)
        omega
    · refine ifF (by omega) ?_
      refine ⟨_, rfl, (11 * (k : Int) + 5), rfl, 10, 18, rfl, rfl, ⟨by decide, by decide, by decide⟩, _, _, rfl, rfl, _, _, rfl, ?_⟩
      refine ⟨_, rfl, (11 * (k : Int) + 5), rfl, _, 2147483587, rfl, rfl, by show (0 : Int) < 2147483587; decide, _, 1, rfl, rfl, _, rfl, (k : Int), 2, rfl, rfl, _, 5, rfl, rfl, ⟨by decide, by decide, by omega⟩, _, _, rfl, rfl, ⟨by omega, by omega⟩, _, 2147483563, rfl, rfl, by show (0 : Int) < 2147483563; decide, _, 1, rfl, rfl, ?_⟩
      refine ⟨Nat.le_of_lt (sz63 (by show 2 ≤ 64; decide)), fun p hp => q _ p (same_upd hp) hp ⟨_, _, upd_same, ?_, ?_⟩⟩
      · have := Int.emod_nonneg (((if (11 * (k : Int) + 5) < 0 then -(11 * (k : Int) + 5) else (11 * (k : Int) + 5)) % 2147483587 + 1) * ((k : Int) + 2) ^ (5 : Int).toNat) (show (2147483563 : Int) ≠ 0 by decide)
        omega
      · have := Int.emod_lt_of_pos (((if (11 * (k : Int) + 5) < 0 then -(11 * (k : Int) + 5) else (11 * (k : Int) + 5)) % 2147483587 + 1) * ((k : Int) + 2) ^ (5 : Int).toNat) (show (0 : Int) < 2147483563 by decide)
        omega
/-! ### take -/
def spTake : Sp := fun vs H Q _ => ∃ (p : Addr) (m : Int), vs = [.ref p, .int m] ∧ PotAt H p ∧ 0 < m ∧ m < 1073741824 ∧ ∀ (H' : Hp) (d : Int), Kp (· = p) H H' → PotAt H' p → 0 ≤ d → d < m → Q (.int d) H'
theorem scTake : FnScope ["_law_pot_here", "_law_many", "_law_digit"] ["_law_pot_here", "_law_many"] (defScope sLTake) := ⟨rfl, rfl, rfl, by decide +kernel, rfl, by decide +kernel, by decide +kernel⟩
theorem okTake (F : FnP K "_law_take" "_law_take" sLTake [] f fd) (T : Tx K mg) : FnOk P w K mg base CX0 1 f fd ["_law_pot_here", "_law_many"] spTake := by
  refine F.ok scTake (fun vs H Q E h => ?_) (fun cdv A outer s H vs Q E hr h => ?_)
  · obtain ⟨p, m, rfl, _⟩ := h; rfl
  · obtain ⟨p, m, rfl, ⟨x, y, hp, y0, y1⟩, m0, m1, q⟩ := h
    refine ⟨_, PSs.nox (pss_cons (ps_if (pt_cmpR op_gt (pe_ix ix_list (pv 0) pe_int (fun _ _ => rfl)) pe_int (nomark _))
        (pss_cons (ps_asg (pe_callB call_divmod (by rfl) T.divmod (by decide +kernel) (pa_cons (pe_ix ix_list (pv 0) pe_int (fun _ _ => rfl)) (pa_cons (pv 1) pa_nil)))
          (pg_tup rfl (pgs_cons (pg_sub (pv 0) pe_int set_list (fun _ => rfl)) (pgs_cons (pg_name (i := 2) scTake.nd rfl (Or.inl rfl)) pgs_nil)))) (pss_one (ps_ret (pv 2)))) pss_nil)
      (pss_cons (ps_asg (pe_op op_mod (pe_add (pe_mul (pe_ix ix_list (pv 0) pe_int (fun _ _ => rfl)) pe_int) pe_int) pe_int) (pg_sub (pv 0) pe_int set_list (fun _ => rfl)))
      (pss_one (ps_ret (pe_op op_mod (pe_op op_fdiv (pe_op op_mod (pe_mul (pe_ix ix_list (pv 0) pe_int (fun _ _ => rfl)) (pe_ix ix_list (pv 0) pe_int (fun _ _ => rfl))) pe_int) pe_int) (pv 1)))))), ?_⟩
    refine ⟨_, rfl, p, _, 0, .int x, rfl, rfl, SqL.of hp, atI_nat (j := 0) rfl, x, 0, rfl, rfl, _, rfl, ?_⟩
    by_cases h0 : 0 < x
    · refine ifT h0 ?_
      refine ⟨_, rfl, p, _, 0, .int x, rfl, rfl, SqL.of hp, atI_nat (j := 0) rfl, _, rfl, x, m, rfl, ⟨m0, m1⟩, fun t ht => ?_⟩
      have nt : p ≠ t := ne_of_none hp ht
      refine ⟨t, _, rfl, SqT.of upd_same, rfl, _, _, rfl, _, rfl, p, _, 0, 0, rfl, rfl, by rw [upd_ne nt]; exact hp, rfl, _, _, rfl, rfl, ?_⟩
      refine ⟨_, rfl, q _ _ ((Same.kp (same_upd ht)).upd rfl) ⟨_, y, upd_same, y0, y1⟩ (Int.emod_nonneg _ (by omega)) (Int.emod_lt_of_pos _ m0)⟩
    · refine ifF h0 ?_
      have r0 := Int.emod_nonneg (y * 48271 + 12347) (show (2147483579 : Int) ≠ 0 by decide)
      have r1 := Int.emod_lt_of_pos (y * 48271 + 12347) (show (0 : Int) < 2147483579 by decide)
      refine ⟨_, rfl, p, _, 1, .int y, rfl, rfl, SqL.of hp, atI_nat (j := 1) rfl, y, 48271, rfl, rfl, ⟨by omega, by omega⟩, _, 12347, rfl, rfl, _, 2147483579, rfl, rfl, by show (0 : Int) < 2147483579; decide, ?_⟩
      refine ⟨_, rfl, p, _, 1, 1, rfl, rfl, hp, rfl, ?_⟩
      have hp2 : (L2.upd H p (.lst ([V.int x, V.int y].set 1 (.int ((y * 48271 + 12347) % 2147483579))))) p = some (.lst [.int x, .int ((y * 48271 + 12347) % 2147483579)]) := upd_same
      refine ⟨_, rfl, p, _, 1, .int ((y * 48271 + 12347) % 2147483579), rfl, rfl, SqL.of hp2, atI_nat (j := 1) rfl, _, rfl, p, _, 1, .int ((y * 48271 + 12347) % 2147483579), rfl, rfl, SqL.of hp2, atI_nat (j := 1) rfl, _, _, rfl, rfl, ⟨by omega, by omega⟩, _, 2147483549, rfl, rfl, by show (0 : Int) < 2147483549; decide,
        _, 17, rfl, rfl, ⟨by decide, by decide⟩, _, rfl, _, m, rfl, rfl, m0, ?_⟩
      exact q _ _ (kp_upd rfl) ⟨_, _, hp2, r0, by omega⟩ (Int.emod_nonneg _ (by omega)) (Int.emod_lt_of_pos _ m0)
/-! ### far -/
def spFar : Sp := fun vs H Q _ => ∃ (p : Addr), vs = [.ref p] ∧ PotAt H p ∧ ∀ (H' : Hp) (d : Int), Kp (· = p) H H' → PotAt H' p → 0 ≤ d → d < 10 ^ 54 → Q (.int d) H'
theorem scFar : FnScope ["_law_pot_here", "_law_found", "_law_k"] ["_law_pot_here"] (defScope sLFar) := ⟨rfl, rfl, rfl, by decide +kernel, rfl, by decide +kernel, by decide +kernel⟩
theorem okFar (F : FnP K "_law_far" "_law_far" sLFar [] f fd) (T : Tx K mg) (U : Use P w K mg base 1 "_law_take" ["_law_pot_here", "_law_many"] [] spTake) : FnOk P w K mg base CX0 2 f fd ["_law_pot_here"] spFar := by
  refine F.ok scFar (fun vs H Q E h => ?_) (fun cdv A outer s H vs Q E hr h => ?_)
  · obtain ⟨p, rfl, _⟩ := h; rfl
  · obtain ⟨p, rfl, hp, q⟩ := h
    refine ⟨_, PSs.nox (pss_cons (ps_if (pt_cmpR op_gt (pe_use U hr (by rfl) (pa_cons (pv 0) (pa_cons pe_int pa_nil))) pe_int (nomark _)) (pss_one (ps_ret pe_int)) pss_nil)
      (pss_cons (ps_set (i := 1) scFar.nd rfl (Or.inl rfl) pe_int)
      (pss_cons (ps_for PassesOwn.never rfl (pi_range1 (by rfl) T.range (pa_cons pe_int pa_nil)) (pg_name (i := 2) scFar.nd rfl (Or.inl rfl))
        (pss_one (ps_set (i := 1) scFar.nd rfl (Or.inl rfl) (pe_add (pe_op op_mul (pv 1) (pe_op op_pow pe_int pe_int)) (pe_use U hr (by rfl) (pa_cons (pv 0) (pa_cons (pe_op op_pow pe_int pe_int) pa_nil)))))))
      (pss_one (ps_ret (pv 1)))))), ?_⟩
    refine ⟨_, rfl, p, 3, rfl, hp, by decide, by decide, fun H1 d k1 hp1 d0 d3 => ?_⟩
    refine ⟨d, 0, rfl, rfl, _, rfl, ?_⟩
    by_cases h0 : 0 < d
    · refine ifT h0 (q _ 0 k1 hp1 (by decide) (by decide))
    · refine ifF h0 ?_
      refine ⟨6, rfl, by decide, by decide, for_it walk_range (fun i σ H2 => Kp (· = p) H H2 ∧ PotAt H2 p ∧ ∃ (v : Int) (a1 : Option V), 0 ≤ v ∧ v < 1000000000 ^ i ∧ σ = [some (.ref p), some (.int v), a1]) ⟨k1, hp1, 0, none, by decide, by decide, rfl⟩ (fun _ _ _ _ _ => trivial) ?_ ?_⟩
      · rintro i x σ H2 H3 hi ⟨kp, hp2, v, a1, v0, v1, rfl⟩ ⟨rfl, rfl⟩
        refine ⟨_, rfl, 10, 9, rfl, rfl, ⟨by decide, by decide, by decide⟩, v, _, rfl, rfl, .inr ⟨by decide, by decide⟩, _, rfl, 10, 9, rfl, rfl, ⟨by decide, by decide, by decide⟩, p, _, rfl, hp2, by decide, by decide, fun H4 e k4 hp4 e0 e1 => ?_⟩
        refine ⟨_, _, rfl, rfl, kp.trans k4, hp4, v * 1000000000 + e, some (.int (0 + (i : Nat))), by omega, ?_, rfl⟩
        have e2 : e < 1000000000 := e1
        rw [Int.pow_succ]
        omega
      · rintro σ H2 ⟨kp, hp2, v, a1, v0, v1, rfl⟩
        exact ⟨_, rfl, q _ v kp hp2 v0 v1⟩
end
end LT
namespace LT
open PySem PySem.Spec PyProof.Rows L2
/-! ### letters -/
abbrev abc : Str := "abcdefghijklmnopqrstuvwxyz"
/-- a sign of the letters -/
def Sig (y : Str) : Prop := ∃ c, y = ⟨#[c]⟩ ∧ 97 ≤ c ∧ c ≤ 122
theorem abc_at {i : Int} (h0 : 0 ≤ i) (h1 : i < 26) : i < abc.length ∧ abc.cps[i.toNat]? = some (97 + i.toNat) := by
  have all : ∀ k : Fin 26, abc.cps[k.val]? = some (97 + k.val) := by decide +kernel
  have l : abc.length = 26 := by decide +kernel
  exact ⟨by rw [l]; exact h1, all ⟨i.toNat, by omega⟩⟩
theorem isNm_join {ys : List Str} (h : ∀ y ∈ ys, Sig y) (h1 : 1 ≤ ys.length) (h8 : ys.length ≤ 8) : IsNm (Txt.join "" ys) := by
  rw [TL.join_eq]
  have e : ∀ ys : List Str, (∀ y ∈ ys, Sig y) → (Str.join "" ys).cps.toList.length = ys.length ∧ ∀ c ∈ (Str.join "" ys).cps.toList, 97 ≤ c ∧ c ≤ 122 := by
    intro ys
    induction ys with
    | nil => intro _; exact ⟨rfl, fun c hc => nomatch hc⟩
    | cons y ys ih =>
      intro hy
      obtain ⟨i1, i2⟩ := ih fun z hz => hy z (List.mem_cons_of_mem _ hz)
      obtain ⟨c, rfl, c1, c2⟩ := hy y (List.mem_cons_self ..)
      cases ys with
      | nil =>
        refine ⟨rfl, fun d hd => ?_⟩
        have hd2 : d ∈ [c] := hd
        rw [List.mem_singleton.mp hd2]
        exact ⟨c1, c2⟩
      | cons z zs =>
        have e1 : (Str.join "" ((⟨#[c]⟩ : Str) :: z :: zs)).cps.toList = c :: (Str.join "" (z :: zs)).cps.toList := by
          show ((⟨#[c]⟩ : Str) ++ "" ++ Str.join "" (z :: zs)).cps.toList = _
          rw [Str.cps_append, Str.cps_append, Array.toList_append, Array.toList_append]
          rfl
        rw [e1]
        refine ⟨by rw [List.length_cons, i1]; rfl, fun d hd => ?_⟩
        rcases List.mem_cons.mp hd with rfl | hd
        · exact ⟨c1, c2⟩
        · exact i2 d hd
  obtain ⟨i1, i2⟩ := e ys h
  have l : (Str.join "" ys).length = ys.length := by
    rw [← i1, Array.length_toList]
    rfl
  exact ⟨by omega, by omega, i2⟩
theorem sum_ones : ∀ {ys : List Str}, (∀ y ∈ ys, Sig y) → (ys.map (·.length)).sum = ys.length
  | [], _ => rfl
  | y :: ys, h => by
    rw [List.map_cons, List.sum_cons, sum_ones fun z hz => h z (List.mem_cons_of_mem _ hz), List.length_cons]
    obtain ⟨c, rfl, _⟩ := h y (List.mem_cons_self ..)
    show 1 + ys.length = _
    omega
theorem cutS_mem {z : Str} {lo hi : Option Int} {c : Nat} (h : c ∈ (cutS z lo hi).cps.toList) : c ∈ z.cps.toList := by
  unfold cutS at h
  exact List.mem_of_mem_drop (List.mem_of_mem_take (by simpa using h))
theorem isNm_swap {z : Str} {i : Int} {y : Str} (hz : IsNm z) (h0 : 0 ≤ i) (h1 : i < z.length) (hy : Sig y) : IsNm (cutS z none (some i) ++ y ++ cutS z (some (i + 1)) none) := by
  obtain ⟨c, rfl, c1, c2⟩ := hy
  have l1 : (cutS z none (some i)).length = i.toNat := by
    unfold cutS
    show (List.toArray _).size = _
    rw [List.size_toArray, List.length_take, List.length_drop, Array.length_toList]
    have e1 : HT.sIx z.length 0 none = 0 := rfl
    have e2 : HT.sIx z.length z.length (some i) = min i.toNat z.length := by
      show (if i < 0 then (i + (z.length : Int)).toNat else min i.toNat z.length) = _
      rw [if_neg (by omega)]
    rw [e1, e2]
    have e3 : z.cps.size = z.length := rfl
    omega
  have l2 : (cutS z (some (i + 1)) none).length = z.length - (i + 1).toNat := by
    unfold cutS
    show (List.toArray _).size = _
    rw [List.size_toArray, List.length_take, List.length_drop, Array.length_toList]
    have e1 : HT.sIx z.length z.length none = z.length := rfl
    have e2 : HT.sIx z.length 0 (some (i + 1)) = min (i + 1).toNat z.length := by
      show (if i + 1 < 0 then (i + 1 + (z.length : Int)).toNat else min (i + 1).toNat z.length) = _
      rw [if_neg (by omega)]
    rw [e1, e2]
    have e3 : z.cps.size = z.length := rfl
    omega
  obtain ⟨z1, z8, zl⟩ := hz
  have l : (cutS z none (some i) ++ (⟨#[c]⟩ : Str) ++ cutS z (some (i + 1)) none).length = z.length := by
    rw [strLen_append, strLen_append, l1, l2]
    show i.toNat + 1 + _ = _
    omega
  refine ⟨by omega, by omega, fun d hd => ?_⟩
  rw [Str.cps_append, Str.cps_append, Array.toList_append, Array.toList_append] at hd
  rcases List.mem_append.mp hd with hd | hd
  · rcases List.mem_append.mp hd with hd | hd
    · exact zl d (cutS_mem hd)
    · have hd2 : d ∈ [c] := hd
      rw [List.mem_singleton.mp hd2]
      exact ⟨c1, c2⟩
  · exact zl d (cutS_mem hd)
theorem isNm_q {x y : Str} (hx : Sig x) (hy : Sig y) : IsNm ((("q" : Str) ++ x) ++ y) := by
  obtain ⟨c, rfl, c1, c2⟩ := hx
  obtain ⟨d, rfl, d1, d2⟩ := hy
  have e : ((("q" : Str) ++ (⟨#[c]⟩ : Str)) ++ (⟨#[d]⟩ : Str)).cps.toList = [113, c, d] := by
    rw [Str.cps_append, Str.cps_append, Array.toList_append, Array.toList_append]
    rfl
  have l : ((("q" : Str) ++ (⟨#[c]⟩ : Str)) ++ (⟨#[d]⟩ : Str)).length = 3 := by
    rw [strLen_append, strLen_append]
    rfl
  refine ⟨by omega, by omega, fun a ha => ?_⟩
  rw [e] at ha
  rcases List.mem_cons.mp ha with rfl | ha
  · decide
  · rcases List.mem_cons.mp ha with rfl | ha
    · exact ⟨c1, c2⟩
    · rw [List.mem_singleton.mp ha]
      exact ⟨d1, d2⟩
/-- a statement, then the rest: what holds between -/
theorem seq_cut {t u : TS} {D : Ends} {σ : L2.St} {H : Hp} (I : L2.St → Hp → Prop) (h1 : ∀ R : L2.St → Hp → Prop, (∀ σ' H', I σ' H' → R σ' H') → t { D with nx := R } σ H) (h2 : ∀ σ' H', I σ' H' → u D σ' H') : tSeq t u D σ H := h1 (u D) h2
section
variable {P : Program} {w : World} {K : PySem.W.Frag} {mg : Str → Option Value} {base : Heap} {f : Addr} {fd : FuncData}
def spNames : Sp := fun vs H Q _ => ∃ (p : Addr) (m : Nat), vs = [.ref p, .int m] ∧ PotAt H p ∧ m ≤ 5 ∧ ∀ (H' : Hp) (l : Addr) (ns : List Str), Kp (· = p) H H' → PotAt H' p → H l = none → H' l = some (.lst (ns.map V.str)) → ns.length = m → (∀ z ∈ ns, IsNm z) → Q (.ref l) H'
theorem scNames : FnScope ["_law_pot_here", "_law_many", "_law_letters", "_law_found", "_law_k", "_law_j", "_law_name", "_law_at"] ["_law_pot_here", "_law_many"] (defScope sLNames) := ⟨rfl, rfl, rfl, by decide +kernel, rfl, by decide +kernel, by decide +kernel⟩
theorem okNames (F : FnP K "_law_names" "_law_names" sLNames [] f fd) (T : Tx K mg) (U : Use P w K mg base 1 "_law_take" ["_law_pot_here", "_law_many"] [] spTake) : FnOk P w K mg base CX0 2 f fd ["_law_pot_here", "_law_many"] spNames := by
  refine F.ok scNames (fun vs H Q E h => ?_) (fun cdv A outer s H vs Q E hr h => ?_)
  · obtain ⟨p, m, rfl, _⟩ := h; rfl
  · obtain ⟨p, m, rfl, hp, hm, q⟩ := h
    refine ⟨_, PSs.nox (pss_cons (ps_set (i := 2) scNames.nd rfl (Or.inr rfl) pe_str)
      (pss_cons (ps_set (i := 3) scNames.nd rfl (Or.inl rfl) (pe_lst pa_nil))
      (pss_cons (ps_for PassesOwn.never rfl (pi_range1 (by rfl) T.range (pa_cons (pv 1) pa_nil)) (pg_name (i := 4) scNames.nd rfl (Or.inl rfl))
        (pss_cons (ps_set (i := 6) scNames.nd rfl (Or.inl rfl) (pe_join pe_str (pe_lc (own := [("_law_j", 5)]) (g := gName 5) (tt := tYes) rfl scNames.nd (pi_range1 (by rfl) T.range (pa_cons (pe_add pe_int (pe_use U hr (by rfl) (pa_cons (pv 0) (pa_cons pe_int pa_nil)))) pa_nil))
            (blkOk_by (N := ["_law_pot_here", "_law_many", "_law_letters", "_law_found", "_law_k", "_law_j", "_law_name", "_law_at"]) (sc := defScope sLNames) (by decide +kernel))
            (fun _ _ _ _ _ => pg_name (i := 5) scNames.nd rfl (Or.inl rfl)) (fun _ _ _ _ _ => pts_nil) (fun _ _ _ _ _ => pe_item_str (pv 2) (pe_use U hr (by rfl) (pa_cons (pv 0) (pa_cons pe_int pa_nil))) (fun _ _ => rfl)))))
        (pss_cons (ps_if (PW.pt (pw_and (pt_cmpR (op_neNil hr.units) (pv 3) (pe_lst pa_nil) (nomark _)) (pw_and1 (pt_cmpR op_eq (pe_use U hr (by rfl) (pa_cons (pv 0) (pa_cons pe_int pa_nil))) pe_int (nomark _)))))
          (pss_cons (ps_set (i := 7) scNames.nd rfl (Or.inl rfl) (pe_use U hr (by rfl) (pa_cons (pv 0) (pa_cons (pe_callB call_len_str (by rfl) T.len PySem.boot_len (pa_cons (pe_ix ix_list (pv 3) pe_int (fun _ _ => rfl)) pa_nil)) pa_nil))))
          (pss_one (ps_set (i := 6) scNames.nd rfl (Or.inl rfl) (pe_op op_add_str (pe_op op_add_str (pe_slice sl_str (pe_ix ix_list (pv 3) pe_int (fun _ _ => rfl)) po_none (po_some (pv 7)))
            (pe_item_str (pv 2) (pe_use U hr (by rfl) (pa_cons (pv 0) (pa_cons pe_int pa_nil))) (fun _ _ => rfl))) (pe_slice sl_str (pe_ix ix_list (pv 3) pe_int (fun _ _ => rfl)) (po_some (pe_add (pv 7) pe_int)) po_none))))) pss_nil)
        (pss_cons (ps_for PassesOwn.never rfl (pi_range1 (by rfl) T.range (pa_cons pe_int pa_nil)) (pg_name (i := 5) scNames.nd rfl (Or.inl rfl))
          (pss_one (ps_if (pt_cmpR op_in_seq (pv 6) (pv 3) rfl) (pss_one (ps_set (i := 6) scNames.nd rfl (Or.inl rfl) (pe_op op_add_str (pe_op op_add_str pe_str (pe_item_str (pv 2) (pe_op op_fdiv (pv 5) pe_int) (fun _ _ => rfl))) (pe_item_str (pv 2) (pe_op op_mod (pv 5) pe_int) (fun _ _ => rfl))))) pss_nil)))
        (pss_one (ps_expr (pe_bm PySem.F.plainAttrs_list PySem.F.slot_list_append PySem.F.type_list_append mt_append (pv 3) (pa_cons (pv 6) pa_nil))))))))
      (pss_one (ps_ret (pv 3)))))), ?_⟩
    refine ⟨by decide, fun F hF => ?_⟩
    have npF : ¬ F = p := fun z => by
      obtain ⟨x, y, e, _⟩ := hp
      rw [← z, hF] at e
      cases e
    have k0 : Kp (· = p) H (L2.upd H F (.lst [])) := Same.kp (same_upd hF)
    have hp0 : PotAt (L2.upd H F (.lst [])) p := by
      obtain ⟨x, y, e, h1⟩ := hp
      exact ⟨x, y, by rw [upd_ne (fun z => npF z.symm)]; exact e, h1⟩
    have eF : (L2.upd H F (.lst [])) F = some (.lst (([] : List Str).map V.str)) := upd_same
    generalize L2.upd H F (.lst []) = H0 at *
    refine ⟨_, rfl, (m : Int), rfl, by omega, by omega, for_it walk_range (fun i σ H2 => Kp (· = p) H H2 ∧ PotAt H2 p ∧ ∃ ns : List Str, H2 F = some (.lst (ns.map V.str)) ∧ ns.length = i ∧ (∀ z ∈ ns, IsNm z) ∧
      ∃ a4 a5 a6 a7, σ = [some (.ref p), some (.int m), some (.str abc), some (.ref F), a4, a5, a6, a7]) ⟨k0, hp0, [], eF, rfl, (fun z h => nomatch h), none, none, none, none, rfl⟩ (fun _ _ _ _ _ => trivial) ?_ ?_⟩
    · rintro i x σ H2 H3 hi ⟨kp, hp2, ns, hF2, ln, hns, a4, a5, a6, a7, rfl⟩ ⟨rfl, rfl⟩
      rw [Int.toNat_natCast] at hi
      -- the name
      refine seq_cut (fun σ H4 => Kp (· = p) H H4 ∧ PotAt H4 p ∧ H4 F = some (.lst (ns.map V.str)) ∧ ∃ z a5, IsNm z ∧ σ = [some (.ref p), some (.int m), some (.str abc), some (.ref F), some (.int (0 + (i : Nat))), a5, some (.str z), a7]) (fun R hR => ?_) ?_
      · refine ⟨⟨_, rfl⟩, _, rfl, p, 8, rfl, hp2, by decide, by decide, fun H4 d k4 hp4 d0 d8 => ⟨1, d, rfl, rfl, 1 + d, rfl, by omega, by omega, fun D hD => ?_⟩⟩
        have kp4 := kp.trans k4
        have hF4 := k4 _ _ hF2 npF
        have nFD : F ≠ D := ne_of_none hF4 hD
        have npD : ¬ D = p := fun z => by
          obtain ⟨x, y, e, _⟩ := hp4
          rw [← z, hD] at e
          cases e
        have hDH : H D = none := kp4.free hD npD
        refine lc_it walk_range (fun j H5 => Kp (· = p) H H5 ∧ PotAt H5 p ∧ H5 F = some (.lst (ns.map V.str)) ∧ ∃ ys : List Str, H5 D = some (.lst (ys.map V.str)) ∧ ys.length = j ∧ ∀ y ∈ ys, Sig y)
          ⟨kp4.updN hDH, ?_, by rw [upd_ne nFD]; exact hF4, [], upd_same, rfl, (fun y h => nomatch h)⟩ (fun _ _ _ _ => trivial) ?_ ?_
        · obtain ⟨x, y, e, h1⟩ := hp4
          exact ⟨x, y, by rw [upd_ne (fun z => npD z.symm)]; exact e, h1⟩
        · rintro j x H5 H6 hj ⟨k5, hp5, hF5, ys, hy, ly, sy⟩ ⟨rfl, rfl⟩
          refine ⟨rfl, ?_⟩
          refine ⟨_, rfl, _, rfl, p, 26, rfl, hp5, by decide, by decide, fun H7 e k7 hp7 e0 e26 => ⟨abc, e, _, rfl, rfl, e0, by omega, (abc_at e0 e26).1, (abc_at e0 e26).2, _, k7 _ _ hy npD, by rw [List.length_map]; exact sz63 (by omega), ?_⟩⟩
          refine ⟨(k5.trans k7).updN hDH, ?_, by rw [upd_ne nFD]; exact k7 _ _ hF5 npF, ys ++ [(⟨#[97 + e.toNat]⟩ : Str)], by rw [upd_same, List.map_append]; rfl, by rw [List.length_append, ly]; rfl, fun y h => ?_⟩
          · obtain ⟨x, y, e, h1⟩ := hp7
            exact ⟨x, y, by rw [upd_ne (fun z => npD z.symm)]; exact e, h1⟩
          · rcases List.mem_append.mp h with h | h
            · exact sy y h
            · rw [List.mem_singleton.mp h]
              exact ⟨_, rfl, by omega, by omega⟩
        · rintro H5 ⟨k5, hp5, hF5, ys, hy, ly, sy⟩
          have l8 : 1 ≤ ys.length ∧ ys.length ≤ 8 := by omega
          refine ⟨"", D, ys, rfl, rfl, .inl (SqL.of hy), by rw [sum_ones sy]; show _ + ys.length * 0 ≤ _; omega, ?_⟩
          exact hR _ _ ⟨k5, hp5, hF5, _, a5, isNm_join sy l8.1 l8.2, rfl⟩
      rintro σ H4 ⟨k4, hp4, hF4, z, a5, hz, rfl⟩
      refine seq_cut (fun σ H4 => Kp (· = p) H H4 ∧ PotAt H4 p ∧ H4 F = some (.lst (ns.map V.str)) ∧ ∃ z a5 a7, IsNm z ∧ σ = [some (.ref p), some (.int m), some (.str abc), some (.ref F), some (.int (0 + (i : Nat))), a5, some (.str z), a7]) (fun R hR => ?_) ?_
      · refine ⟨_, rfl, by decide, fun b hb => ?_⟩
        have k5 : Kp (· = p) H (L2.upd H4 b (.lst [])) := k4.trans (Same.kp (same_upd hb))
        have hF5 : (L2.upd H4 b (.lst [])) F = some (.lst (ns.map V.str)) := by rw [upd_ne (ne_of_none hF4 hb)]; exact hF4
        have eb : (L2.upd H4 b (.lst [])) b = some (.lst []) := upd_same
        have hp5 : PotAt (L2.upd H4 b (.lst [])) p := by
          obtain ⟨x, y, e, h1⟩ := hp4
          exact ⟨x, y, by rw [upd_ne (ne_of_none e hb)]; exact e, h1⟩
        generalize L2.upd H4 b (.lst []) = H5 at *
        refine ⟨F, b, _, rfl, rfl, SqL.of hF5, eb, _, rfl, ?_⟩
        cases ns with
        | nil => exact iteF (hR _ _ ⟨k5, hp5, hF5, z, a5, a7, hz, rfl⟩)
        | cons n0 ns =>
          have hn0 := hns n0 (List.mem_cons_self ..)
          refine iteT ⟨_, rfl, p, 3, rfl, hp5, by decide, by decide, fun H6 d k6 hp6 d0 d3 => ⟨rfl, _, rfl, ?_⟩⟩
          have hF6 := k6 _ _ hF5 npF
          by_cases h0 : d = 0
          · refine ifT (by rw [h0]) ?_
            refine ⟨_, rfl, _, rfl, F, _, 0, .str n0, rfl, rfl, SqL.of hF6, atI_nat (j := 0) rfl, n0, rfl, Nat.le_of_lt (sz63 (by have := hn0.2.1; omega)), p, (n0.length : Int), rfl, hp6, by have := hn0.1; omega, by have := hn0.2.1; omega, fun H7 e k7 hp7 e0 e1 => ?_⟩
            have hF7 := k7 _ _ hF6 npF
            have zl : n0.length ≤ sizeLine := Nat.le_of_lt (sz63 (by have := hn0.2.1; omega))
            refine ⟨_, rfl, F, _, 0, .str n0, rfl, rfl, SqL.of hF7, atI_nat (j := 0) rfl, _, rfl, e, rfl, n0, rfl, zl, _, rfl, _, rfl, p, 26, rfl, hp7, by decide, by decide, fun H8 g k8 hp8 g0 g1 => ?_⟩
            have hF8 := k8 _ _ hF7 npF
            have c1 := cutS_length n0 none (some e)
            have c2 := cutS_length n0 (some (e + 1)) none
            have hsw := isNm_swap (y := ⟨#[97 + g.toNat]⟩) hn0 e0 e1 ⟨_, rfl, by omega, by omega⟩
            have n8 := hn0.2.1
            refine ⟨abc, g, _, rfl, rfl, g0, by omega, (abc_at g0 g1).1, (abc_at g0 g1).2, _, _, rfl, rfl, Nat.le_of_lt (sz63 (by show _ + 1 ≤ 64; omega)), _, rfl, F, _, 0, .str n0, rfl, rfl, SqL.of hF8, atI_nat (j := 0) rfl, _, rfl, e, 1, rfl, rfl, _, rfl, n0, rfl, zl, _, _, rfl, rfl, ?_, ?_⟩
            · rw [strLen_append]
              exact Nat.le_of_lt (sz63 (by show _ + 1 + _ ≤ 64; omega))
            · exact hR _ _ ⟨((k5.trans k6).trans k7).trans k8, hp8, hF8, _, a5, some (.int e), hsw, rfl⟩
          · exact ifF (fun z => h0 (V.int.inj z)) (hR _ _ ⟨k5.trans k6, hp6, hF6, z, a5, a7, hz, rfl⟩)
      rintro σ H4 ⟨k4, hp4, hF4, z, a5, a7, hz, rfl⟩
      refine seq_cut (fun σ H4 => Kp (· = p) H H4 ∧ PotAt H4 p ∧ H4 F = some (.lst (ns.map V.str)) ∧ ∃ z a5 a7, IsNm z ∧ σ = [some (.ref p), some (.int m), some (.str abc), some (.ref F), some (.int (0 + (i : Nat))), a5, some (.str z), a7]) (fun R hR => ?_) ?_
      · refine ⟨676, rfl, by decide, by decide, for_it walk_range (fun j σ H5 => H5 = H4 ∧ ∃ z a5, IsNm z ∧ σ = [some (.ref p), some (.int m), some (.str abc), some (.ref F), some (.int (0 + (i : Nat))), a5, some (.str z), a7]) ⟨rfl, z, a5, hz, rfl⟩ (fun _ _ _ _ _ => trivial) ?_ ?_⟩
        · rintro j x σ H5 H6 hj ⟨rfl, z, a5, hz, rfl⟩ ⟨rfl, rfl⟩
          have hj2 : j < 676 := hj
          refine ⟨_, rfl, _, rfl, F, _, rfl, .inl (SqL.of hF4), rfl, by rw [List.all_map]; exact List.all_eq_true.mpr fun _ _ => rfl, _, rfl, ?_⟩
          have r1 := Int.emod_nonneg (0 + (j : Int)) (show (26 : Int) ≠ 0 by decide)
          have r2 := Int.emod_lt_of_pos (0 + (j : Int)) (show (0 : Int) < 26 by decide)
          have d1 : (0 + (j : Int)) / 26 < 26 := by omega
          have d0 : 0 ≤ (0 + (j : Int)) / 26 := by omega
          refine ite2 (fun _ => ?_) (fun _ => ⟨rfl, z, some (.int (0 + (j : Nat))), hz, rfl⟩)
          refine ⟨_, rfl, _, rfl, (0 + (j : Int)), 26, rfl, rfl, ⟨by decide, by decide⟩, abc, _, _, rfl, rfl, d0, by omega, (abc_at d0 d1).1, (abc_at d0 d1).2, _, _, rfl, rfl, by show 1 + 1 ≤ sizeLine; decide, _, rfl, _, rfl, (0 + (j : Int)), 26, rfl, rfl, by show (0 : Int) < 26; decide,
            abc, _, _, rfl, rfl, r1, by omega, (abc_at r1 r2).1, (abc_at r1 r2).2, _, _, rfl, rfl, by rw [strLen_append]; show 1 + 1 + 1 ≤ sizeLine; decide, ?_⟩
          exact ⟨rfl, _, some (.int (0 + (j : Nat))), isNm_q ⟨_, rfl, by omega, by omega⟩ ⟨_, rfl, by omega, by omega⟩, rfl⟩
        · rintro σ H5 ⟨rfl, z, a5, hz, rfl⟩
          exact hR _ _ ⟨k4, hp4, hF4, z, a5, a7, hz, rfl⟩
      rintro σ H4 ⟨k4, hp4, hF4, z, a5, a7, hz, rfl⟩
      refine ⟨_, rfl, .inl ⟨rfl, _, SqL.of hF4⟩, _, rfl, F, _, _, rfl, rfl, hF4, by rw [List.length_map]; exact sz63 (by omega), ?_⟩
      refine ⟨k4.updN hF, ?_, ns ++ [z], by rw [upd_same, List.map_append]; rfl, by rw [List.length_append, ln]; rfl, fun y h => ?_, some (.int (0 + (i : Nat))), a5, some (.str z), a7, rfl⟩
      · obtain ⟨x, y, e, h1⟩ := hp4
        exact ⟨x, y, by rw [upd_ne (fun z => npF z.symm)]; exact e, h1⟩
      · rcases List.mem_append.mp h with h | h
        · exact hns y h
        · rw [List.mem_singleton.mp h]
          exact hz
    · rintro σ H2 ⟨kp, hp2, ns, hF2, ln, hns, a4, a5, a6, a7, rfl⟩
      rw [Int.toNat_natCast] at ln
      exact ⟨_, rfl, q _ F ns kp hp2 hF hF2 ln hns⟩
end
end LT
namespace LT
open PySem PySem.Spec PyProof.Rows L2
/-! ### the plan -/
abbrev ky (s : Str) : L2.Key := .inr s
def kvP (N R L : Addr) (f k : Int) (l : Addr) : List (L2.Key × V) := [(ky "names", .ref N), (ky "ranks", .ref R), (ky "lights", .ref L), (ky "far", .int f), (ky "known", .int k), (ky "last", .ref l)]
section
variable (N R L l l' : Addr) (f k k' : Int)
theorem kvP_names : valV (kvP N R L f k l) (ky "names") = some (.ref N) := by with_unfolding_all rfl
theorem kvP_ranks : valV (kvP N R L f k l) (ky "ranks") = some (.ref R) := by with_unfolding_all rfl
theorem kvP_lights : valV (kvP N R L f k l) (ky "lights") = some (.ref L) := by with_unfolding_all rfl
theorem kvP_far : valV (kvP N R L f k l) (ky "far") = some (.int f) := by with_unfolding_all rfl
theorem kvP_known : valV (kvP N R L f k l) (ky "known") = some (.int k) := by with_unfolding_all rfl
theorem kvP_last : valV (kvP N R L f k l) (ky "last") = some (.ref l) := by with_unfolding_all rfl
theorem kvP_putKnown : putK (kvP N R L f k l) (ky "known") (.int k') = kvP N R L f k' l := by with_unfolding_all rfl
theorem kvP_putLast : putK (kvP N R L f k l) (ky "last") (.ref l') = kvP N R L f k l' := by with_unfolding_all rfl
theorem kvP_merge : mergeK [] (kvP N R L f k l) = kvP N R L f k l := by with_unfolding_all rfl
end
/-! ### ranks by names -/
def putR (R : List (Str × Int)) (n : Str) (r : Int) : List (Str × Int) := if (R.any fun e => decide (e.1 = n)) = true then R.map fun e => if e.1 = n then (e.1, r) else e else R ++ [(n, r)]
theorem kvR_put (R : List (Str × Int)) (n : Str) (r : Int) : putK (kvR R) (.inr n) (.int r) = kvR (putR R n r) := by
  unfold putK putR kvR
  have e : ((R.map fun e => ((.inr e.1 : L2.Key), V.int e.2)).any fun kv => decide (kv.1 = .inr n)) = R.any fun e => decide (e.1 = n) := by
    rw [List.any_map]
    congr 1
    funext e
    show decide ((Sum.inr e.1 : L2.Key) = Sum.inr n) = decide (e.1 = n)
    by_cases h : e.1 = n
    · rw [decide_eq_true h, decide_eq_true (by rw [h])]
    · rw [decide_eq_false h, decide_eq_false (fun z => h (Sum.inr.inj z))]
  rw [e]
  split
  · rw [List.map_map, List.map_map]
    refine List.map_congr_left fun e _ => ?_
    show (if (Sum.inr e.1 : L2.Key) = Sum.inr n then ((Sum.inr e.1 : L2.Key), V.int r) else (Sum.inr e.1, V.int e.2)) = _
    by_cases h : e.1 = n
    · rw [if_pos (by rw [h])]
      simp [h]
    · rw [if_neg (fun z => h (Sum.inr.inj z))]
      simp [h]
  · rw [List.map_append]
    rfl
theorem putR_mem {R : List (Str × Int)} {n : Str} {r : Int} {e : Str × Int} (h : e ∈ putR R n r) : e ∈ R ∨ e = (n, r) := by
  unfold putR at h
  split at h
  · obtain ⟨x, hx, q⟩ := List.mem_map.mp h
    split at q
    · rename_i hn
      right
      rw [← q, hn]
    · left
      rw [← q]
      exact hx
  · rcases List.mem_append.mp h with h | h
    · exact .inl h
    · exact .inr (List.mem_singleton.mp h)
theorem putR_len (R : List (Str × Int)) (n : Str) (r : Int) : (putR R n r).length ≤ R.length + 1 := by
  unfold putR
  split
  · rw [List.length_map]; omega
  · simp
theorem putR_keys {R : List (Str × Int)} {n : Str} {r : Int} : n ∈ (putR R n r).map (·.1) ∧ ∀ m ∈ R.map (·.1), m ∈ (putR R n r).map (·.1) := by
  unfold putR
  split
  · rename_i h
    have e : (R.map fun e => if e.1 = n then (e.1, r) else e).map (·.1) = R.map (·.1) := by
      rw [List.map_map]
      refine List.map_congr_left fun e _ => ?_
      show (if e.1 = n then (e.1, r) else e).1 = e.1
      split <;> rfl
    rw [e]
    refine ⟨?_, fun m hm => hm⟩
    obtain ⟨x, hx, q⟩ := List.any_eq_true.mp h
    exact List.mem_map.mpr ⟨x, hx, of_decide_eq_true q⟩
  · rw [List.map_append]
    exact ⟨List.mem_append.mpr (.inr (List.mem_singleton.mpr rfl)), fun m hm => List.mem_append.mpr (.inl hm)⟩
theorem merge_kvR : ∀ (L R0 : List (Str × Int)), ∃ R, mergeK (kvR R0) (kvR L) = kvR R ∧ (∀ n, n ∈ R0.map (·.1) ∨ n ∈ L.map (·.1) → n ∈ R.map (·.1)) ∧ R.length ≤ R0.length + L.length ∧ ∀ e ∈ R, e ∈ R0 ∨ e ∈ L
  | [], R0 => ⟨R0, rfl, fun n h => h.elim id (fun z => nomatch z), Nat.le_refl _, fun _ h => .inl h⟩
  | (n, r) :: L, R0 => by
    obtain ⟨R, h1, h2, h3, h4⟩ := merge_kvR L (putR R0 n r)
    refine ⟨R, ?_, fun m hm => h2 m ?_, ?_, fun e he => ?_⟩
    · rw [← h1, ← kvR_put]
      rfl
    · rcases hm with hm | hm
      · exact .inl (putR_keys.2 m hm)
      · rw [List.map_cons] at hm
        rcases List.mem_cons.mp hm with rfl | hm
        · exact .inl putR_keys.1
        · exact .inr hm
    · have := putR_len R0 n r
      rw [List.length_cons]
      omega
    · rcases h4 e he with h | h
      · rcases putR_mem h with h | rfl
        · exact .inl h
        · exact .inr (List.mem_cons_self ..)
      · exact .inr (List.mem_cons_of_mem _ h)
/-! ### a plan in the heap -/
structure Pl where
  d : Addr
  lN : Addr
  dR : Addr
  lL : Addr
  lLast : Addr
  names : List Str
  R : List (Str × Int)
  lights : List Str
  far : Int
  known : Int
  last : Option (Str × Str × Int)
def LastAt (H : Hp) (l : Addr) : Option (Str × Str × Int) → Prop
  | none => H l = some (.lst [])
  | some e => ∃ t, H l = some (.lst [.ref t]) ∧ H t = some (.tup [.str e.1, .str e.2.1, .int e.2.2])
structure PlanAt (H : Hp) (p : Pl) : Prop where
  pd : H p.d = some (.dK (kvP p.lN p.dR p.lL p.far p.known p.lLast))
  nm : H p.lN = some (.lst (p.names.map V.str))
  lg : H p.lL = some (.lst (p.lights.map V.str))
  rk : H p.dR = some (.dK (kvR p.R))
  la : LastAt H p.lLast p.last
  rd : ¬ p.dR = p.d
/-- kind, name, day go together -/
def EvOk (names : List Str) (e : Str × Str × Int) : Prop := ((e.1 = "move" ∧ e.2.1 ∈ names) ∨ (e.1 = "land" ∧ IsNm e.2.1)) ∧ 0 ≤ e.2.2 ∧ e.2.2 < 2 * 10 ^ 54
structure PlOk (p : Pl) : Prop where
  n4 : p.names.length ≤ 4
  nn : ∀ z ∈ p.names, IsNm z
  nr : ∀ z ∈ p.names, z ∈ p.R.map (·.1)
  rk : RkOk p.R
  l0 : p.lights ≠ []
  l3 : p.lights.length ≤ 3
  ln : ∀ z ∈ p.lights, IsNm z
  f0 : 0 ≤ p.far
  f1 : p.far < 10 ^ 54
  k0 : 0 ≤ p.known
  la : ∀ e, p.last = some e → EvOk p.names e
theorem PlanAt.keep {H H' : Hp} {p : Pl} {B : Addr → Prop} (t : PlanAt H p) (k : Kp B H H') (h1 : ¬ B p.d) (h2 : ¬ B p.lN) (h3 : ¬ B p.lL) (h4 : ¬ B p.dR) (h5 : ¬ B p.lLast) (h6 : ∀ t x, H t = some (.tup x) → ¬ B t) : PlanAt H' p := by
  refine ⟨k _ _ t.pd h1, k _ _ t.nm h2, k _ _ t.lg h3, k _ _ t.rk h4, ?_, t.rd⟩
  have la := t.la
  unfold LastAt at la ⊢
  cases hl : p.last with
  | none => rw [hl] at la; exact k _ _ la h5
  | some e =>
    rw [hl] at la
    obtain ⟨t, e1, e2⟩ := la
    exact ⟨t, k _ _ e1 h5, k _ _ e2 (h6 _ _ e2)⟩
theorem PlanAt.same {H H' : Hp} {p : Pl} (t : PlanAt H p) (k : Same H H') : PlanAt H' p := t.keep (B := fun _ => False) (Same.kp k) id id id id id fun _ _ _ => id
end LT
namespace LT
open PySem PySem.Spec PyProof.Rows L2
theorem PotAt.keep {H H' : Hp} {p : Addr} {B : Addr → Prop} (h : PotAt H p) (k : Kp B H H') (n : ¬ B p) : PotAt H' p := by
  obtain ⟨x, y, e, h1⟩ := h
  exact ⟨x, y, k _ _ e n, h1⟩
theorem PotAt.same {H H' : Hp} {p : Addr} (h : PotAt H p) (k : Same H H') : PotAt H' p := h.keep (B := fun _ => False) (Same.kp k) id
theorem PotAt.new {H : Hp} {p a : Addr} {o : HO} (h : PotAt H p) (n : H a = none) : PotAt (L2.upd H a o) p := h.same (same_upd n)
theorem PotAt.ne {H : Hp} {p a : Addr} (h : PotAt H p) (n : H a = none) : ¬ a = p := fun z => by
  obtain ⟨x, y, e, _⟩ := h
  rw [← z, n] at e
  cases e
section
variable {P : Program} {w : World} {K : PySem.W.Frag} {mg : Str → Option Value} {base : Heap} {f : Addr} {fd : FuncData}
def spPlan : Sp := fun vs H Q _ => ∃ (p : Addr), vs = [.ref p, .int 4] ∧ PotAt H p ∧ ∀ (H' : Hp) (pl : Pl), Kp (· = p) H H' → PotAt H' p → H pl.d = none → H pl.lN = none → H pl.lL = none → H pl.dR = none → H pl.lLast = none → PlanAt H' pl → PlOk pl → Q (.ref pl.d) H'
theorem scPlan : FnScope ["_law_pot_here", "_law_most", "_law_names_here", "_law_ranks", "_law_lights", "_law_far_here", "_law_first", "_law_name"] ["_law_pot_here", "_law_most"] (defScope sLPlan) := ⟨rfl, rfl, rfl, by decide +kernel, rfl, by decide +kernel, by decide +kernel⟩
theorem okPlan (F : FnP K "_law_plan" "_law_plan" sLPlan [] f fd) (T : Tx K mg) (UT : Use P w K mg base 1 "_law_take" ["_law_pot_here", "_law_many"] [] spTake) (UN : Use P w K mg base 2 "_law_names" ["_law_pot_here", "_law_many"] [] spNames)
    (UF : Use P w K mg base 2 "_law_far" ["_law_pot_here"] [] spFar) : FnOk P w K mg base CX0 3 f fd ["_law_pot_here", "_law_most"] spPlan := by
  refine F.ok scPlan (fun vs H Q E h => ?_) (fun cdv A outer s H vs Q E hr h => ?_)
  · obtain ⟨p, rfl, _⟩ := h; rfl
  · obtain ⟨p, rfl, hp, q⟩ := h
    refine ⟨_, PSs.nox (pss_cons (ps_set (i := 2) scPlan.nd rfl (Or.inl rfl) (pe_use UN hr (by rfl) (pa_cons (pv 0) (pa_cons (pe_use UT (hr.mono (by decide)) (by rfl) (pa_cons (pv 0) (pa_cons (pe_add (pv 1) pe_int) pa_nil))) pa_nil))))
      (pss_cons (ps_set (i := 3) scPlan.nd rfl (Or.inl rfl) (pe_callTy (call_dictP rfl) (by rfl) T.dict (by decide +kernel) (pa_cons (pe_lc (own := [("_law_name", 7)]) (g := gName 7) (tt := tYes) rfl scPlan.nd (pi_list (pv 2))
          (blkOk_by (N := ["_law_pot_here", "_law_most", "_law_names_here", "_law_ranks", "_law_lights", "_law_far_here", "_law_first", "_law_name"]) (sc := defScope sLPlan) (by decide +kernel))
          (fun _ _ _ _ _ => pg_name (i := 7) scPlan.nd rfl (Or.inl rfl)) (fun _ _ _ _ _ => pts_nil) (fun _ _ _ _ _ => pe_tup (pa_cons (pv 7) (pa_cons (pe_add pe_int (pe_use UT (hr.mono (by decide)) (by rfl) (pa_cons (pv 0) (pa_cons (pe_ix (show IxR _ (rIxL K) from ix_list) (pe_lst (pa_cons pe_int (pa_cons pe_int pa_nil)))
            (pe_use UT (hr.mono (by decide)) (by rfl) (pa_cons (pv 0) (pa_cons pe_int pa_nil))) (fun _ _ => rfl)) pa_nil)))) pa_nil)))) pa_nil)))
      (pss_cons (ps_set (i := 4) scPlan.nd rfl (Or.inl rfl) (pe_use UN hr (by rfl) (pa_cons (pv 0) (pa_cons (pe_add pe_int (pe_use UT (hr.mono (by decide)) (by rfl) (pa_cons (pv 0) (pa_cons pe_int pa_nil)))) pa_nil))))
      (pss_cons (ps_par (i := 5) (j := 6) rfl scPlan.nd rfl rfl (by decide) rfl rfl (pa_cons (pe_use UF hr (by rfl) (pa_cons (pv 0) pa_nil)) (pa_cons (pe_use UF hr (by rfl) (pa_cons (pv 0) pa_nil)) pa_nil)) rfl)
      (pss_one (ps_ret (pe_disp (pps_cons pe_str (pv 2) (pps_cons pe_str (pv 3) (pps_cons pe_str (pv 4) (pps_cons pe_str (pv 5) (pps_cons pe_str (pv 6) (pps_cons pe_str (pe_lst pa_nil) pps_nil)))))) rfl rfl (List.cons_ne_nil _ _) (by decide)))))))), ?_⟩
    refine seq_cut (fun σ H2 => Kp (· = p) H H2 ∧ PotAt H2 p ∧ ∃ (lN : Addr) (ns : List Str), ¬ lN = p ∧ H lN = none ∧ H2 lN = some (.lst (ns.map V.str)) ∧ ns.length ≤ 4 ∧ (∀ z ∈ ns, IsNm z) ∧ σ = [some (.ref p), some (.int 4), some (.ref lN), none, none, none, none, none]) (fun R hR => ?_) ?_
    · refine ⟨_, rfl, _, rfl, _, rfl, 4, 1, rfl, rfl, p, _, rfl, hp, by decide, by decide, fun H1 d k1 hp1 d0 d5 => ?_⟩
      obtain ⟨m, rfl⟩ := Int.eq_ofNat_of_zero_le d0
      refine ⟨p, m, rfl, hp1, by omega, fun H2 lN ns k2 hp2 fN hN lns hns => ?_⟩
      exact hR _ _ ⟨k1.trans k2, hp2, lN, ns, hp1.ne fN, k1.free fN (hp1.ne fN), hN, by omega, hns, rfl⟩
    rintro σ H2 ⟨k02, hp2, lN, ns, nNp, fN0, hN, ns4, hns, rfl⟩
    -- ranks
    refine seq_cut (fun σ H3 => Kp (· = p) H H3 ∧ PotAt H3 p ∧ H3 lN = some (.lst (ns.map V.str)) ∧ ∃ (dR : Addr) (R : List (Str × Int)), H dR = none ∧ H3 dR = some (.dK (kvR R)) ∧ RkOk R ∧ (∀ z ∈ ns, z ∈ R.map (·.1)) ∧ ∃ a7, σ = [some (.ref p), some (.int 4), some (.ref lN), some (.ref dR), none, none, none, a7]) (fun R hR => ?_) ?_
    · refine ⟨_, rfl, lN, rfl, ⟨_, SqL.of hN⟩, fun D hD => ?_⟩
      have nDp : ¬ D = p := hp2.ne hD
      have fD : H D = none := k02.free hD nDp
      have nND : lN ≠ D := ne_of_none hN hD
      refine lc_it (walk_list (xs := ns.map V.str)) (fun i H3 => Kp (· = p) H H3 ∧ PotAt H3 p ∧ H3 lN = some (.lst (ns.map V.str)) ∧ ∃ (ts : List Addr) (L : List (Str × Int)), H3 D = some (.lst (ts.map V.ref)) ∧ Paired (fun t (e : Str × Int) => H3 t = some (.tup [.str e.1, .int e.2])) ts L ∧ L.map (·.1) = ns.take i ∧ ∀ e ∈ L, 1 ≤ e.2 ∧ e.2 ≤ 9)
        ⟨k02.updN fD, hp2.new hD, by rw [upd_ne nND]; exact hN, [], [], upd_same, .nil, rfl, (fun e h => nomatch h)⟩ (fun i H3 _ h => SqL.of h.2.2.1) ?_ ?_
      · rintro i x H3 H4 hi ⟨k3, hp3, hN3, ts, L, hD3, hP, eL, hL⟩ ⟨rfl, hx⟩
        rw [List.length_map] at hi
        rw [List.getElem?_map, List.getElem?_eq_getElem hi] at hx
        cases hx
        refine ⟨rfl, ?_⟩
        refine ⟨_, rfl, _, rfl, by decide, fun g hg => ⟨_, rfl, p, 2, rfl, hp3.new hg, by decide, by decide, fun H5 e k5 hp5 e0 e2 => ?_⟩⟩
        obtain ⟨v, hv, v0, v9⟩ : ∃ v : Int, atI [V.int 9, V.int 2] e = some (.int v) ∧ 0 < v ∧ v ≤ 9 := by
          have : e = 0 ∨ e = 1 := by omega
          rcases this with rfl | rfl
          · exact ⟨9, rfl, by decide, by decide⟩
          · exact ⟨2, rfl, by decide, by decide⟩
        have sg : Same H4 (L2.upd H4 g (.lst [.int 9, .int 2])) := same_upd hg
        have ng : ¬ g = p := hp3.ne hg
        refine ⟨g, _, e, .int v, rfl, rfl, SqL.of (k5 _ _ upd_same ng), hv, p, v, rfl, hp5, v0, by omega, fun H6 r k6 hp6 r0 r1 => ⟨1, r, rfl, rfl, Nat.le_of_lt (sz63 (by show 2 ≤ 64; decide)), fun t ht => ?_⟩⟩
        have k46 : Kp (· = p) H4 H6 := ((Same.kp sg).trans k5).trans k6
        have lt : ts.length = L.length := Paired.length hP
        have lL : L.length ≤ i := by
          have := congrArg List.length eL
          rw [List.length_map, List.length_take] at this
          omega
        have hD6 := k46 _ _ hD3 nDp
        have nDt : D ≠ t := ne_of_none hD6 ht
        refine ⟨_, by rw [upd_ne nDt]; exact hD6, by rw [List.length_map]; exact sz63 (by omega), ?_⟩
        have nNt : lN ≠ t := ne_of_none (k46 _ _ hN3 nNp) ht
        have ftH : H t = none := (k3.trans k46).free ht (hp6.ne ht)
        refine ⟨((k3.trans k46).updN ftH).updN fD, (hp6.new ht).keep (B := (· = D)) (kp_upd rfl) (fun z => nDp z.symm), by rw [upd_ne nND, upd_ne nNt]; exact k46 _ _ hN3 nNp, ts ++ [t], L ++ [(ns[i], 1 + r)], by rw [upd_same, List.map_append]; rfl, ?_, ?_, ?_⟩
        · refine paired_append (Paired.mapP hP fun a b h => ?_) (.cons ?_ .nil)
          · have h6 := k46 _ _ h (fun z => by
              obtain ⟨x, y, e, _⟩ := hp3
              rw [z, e] at h
              cases h)
            rw [upd_ne (ne_of h6 hD6 (by intro z; cases z)), upd_ne (ne_of_none h6 ht)]
            exact h6
          · rw [upd_ne nDt.symm, upd_same]
        · rw [List.map_append, eL, List.take_succ_eq_append_getElem hi]
          rfl
        · intro e he
          rcases List.mem_append.mp he with he | he
          · exact hL e he
          · rw [List.mem_singleton.mp he]
            exact ⟨by show 1 ≤ 1 + r; omega, by show 1 + r ≤ 9; omega⟩
      · rintro H3 ⟨k3, hp3, hN3, ts, L, hD3, hP, eL, hL⟩
        rw [List.length_map, List.take_length] at eL
        obtain ⟨R', h1, h2, h3, h4⟩ := merge_kvR L []
        have lL : L.length = ns.length := by rw [← eL, List.length_map]
        refine ⟨D, ts, kvR L, rfl, SqL.of hD3, ?_, fun dR hdR => ?_⟩
        · have go : ∀ (ts : List Addr) (L : List (Str × Int)), Paired (fun t (e : Str × Int) => H3 t = some (.tup [.str e.1, .int e.2])) ts L → Paired (fun t (kv : L2.Key × V) => SqT K H3 t [kV kv.1, kv.2]) ts (kvR L) := by
            intro ts L p
            induction p with
            | nil => exact .nil
            | cons r _ ih => exact .cons (SqT.of r) ih
          exact go ts L hP
        · have e0 : (mergeK [] (kvR L)) = kvR R' := h1
          have ndp := hp3.ne hdR
          refine hR _ _ ⟨k3.updN (k3.free hdR ndp), hp3.new hdR, by rw [upd_ne (ne_of_none hN3 hdR)]; exact hN3, dR, R', k3.free hdR ndp, by rw [upd_same, e0], ⟨by simp at h3; omega, fun e he => ?_⟩, fun z hz => h2 z (.inr (by rw [eL]; exact hz)), none, rfl⟩
          rcases h4 e he with h | h
          · cases h
          · exact ⟨hns _ (by rw [← eL]; exact List.mem_map.mpr ⟨e, h, rfl⟩), hL e h⟩
    rintro σ H3 ⟨k3, hp3, hN3, dR, R, fdR, hdR, hRk, hRn, a7, rfl⟩
    refine ⟨_, rfl, _, rfl, p, 3, rfl, hp3, by decide, by decide, fun H4 e k4 hp4 e0 e3 => ⟨1, e, rfl, rfl, ?_⟩⟩
    obtain ⟨m2, rfl⟩ := Int.eq_ofNat_of_zero_le e0
    refine ⟨p, 1 + m2, by rw [Int.natCast_add]; rfl, hp4, by omega, fun H5 lL ls k5 hp5 fL hL lls hls => ?_⟩
    have nLp : ¬ lL = p := hp4.ne fL
    have fL0 : H lL = none := (k3.trans k4).free fL nLp
    have ndRp : ¬ dR = p := hp.ne fdR
    refine ⟨_, rfl, p, rfl, hp5, fun H6 fa k6 hp6 fa0 fa1 => ⟨_, rfl, p, rfl, hp6, fun H7 fi k7 hp7 fi0 fi1 => ⟨_, _, rfl, ?_⟩⟩⟩
    have k37 : Kp (· = p) H3 H7 := ((k4.trans k5).trans k6).trans k7
    have k07 := k3.trans k37
    intro pd hpd
    refine ⟨_, rfl, _, rfl, _, rfl, _, rfl, _, rfl, by decide, fun ll hll => ?_⟩
    have npl : pd ≠ ll := fun z => by rw [← z, upd_same] at hll; cases hll
    have hll7 : H7 ll = none := by rw [upd_ne npl.symm] at hll; exact hll
    have nllp := hp7.ne hll7
    have npdp := hp7.ne hpd
    refine ⟨by rw [upd_ne npl, upd_same], kvP lN dR lL fa fi ll, rfl, by show 6 ≤ 15; decide, ?_⟩
    rw [kvP_merge]
    have hN7 := k37 _ _ hN3 nNp
    have hL7 := (k6.trans k7) _ _ hL nLp
    have hR7 := k37 _ _ hdR ndRp
    have off : ∀ c o, H7 c = some o → (L2.upd (L2.upd (L2.upd H7 pd (.dK [])) ll (.lst [])) pd (.dK (kvP lN dR lL fa fi ll))) c = some o := fun c o h => by
      rw [upd_ne (ne_of_none h hpd), upd_ne (ne_of_none h hll7), upd_ne (ne_of_none h hpd)]
      exact h
    refine q _ ⟨pd, lN, dR, lL, ll, ns, R, ls, fa, fi, none⟩ (k07.trans (Same.kp off)) (hp7.same off) (k07.free hpd npdp) fN0 fL0 fdR (k07.free hll7 nllp) ⟨upd_same, off _ _ hN7, off _ _ hL7, off _ _ hR7, ?_, ne_of_none hR7 hpd⟩ ⟨ns4, hns, hRn, hRk, fun z => ?_, by show ls.length ≤ 3; omega, hls, fa0, fa1, fi0, fun e h => nomatch h⟩
    · show (L2.upd _ pd _) ll = _
      rw [upd_ne npl.symm, upd_same]
    · have : ls = [] := z
      rw [this] at lls
      simp at lls
      omega
end
end LT
namespace LT
open PySem PySem.Spec PyProof.Rows L2
section
variable {H : Hp} {p : Pl}
theorem PlanAt.gNames (h : PlanAt H p) : DGet H p.d (.str "names") (some (.ref p.lN)) := (kvP_names p.lN p.dR p.lL p.lLast p.far p.known) ▸ DGet.k (k := ky "names") h.pd
theorem PlanAt.gRanks (h : PlanAt H p) : DGet H p.d (.str "ranks") (some (.ref p.dR)) := (kvP_ranks p.lN p.dR p.lL p.lLast p.far p.known) ▸ DGet.k (k := ky "ranks") h.pd
theorem PlanAt.gLights (h : PlanAt H p) : DGet H p.d (.str "lights") (some (.ref p.lL)) := (kvP_lights p.lN p.dR p.lL p.lLast p.far p.known) ▸ DGet.k (k := ky "lights") h.pd
theorem PlanAt.gFar (h : PlanAt H p) : DGet H p.d (.str "far") (some (.int p.far)) := (kvP_far p.lN p.dR p.lL p.lLast p.far p.known) ▸ DGet.k (k := ky "far") h.pd
theorem PlanAt.gKnown (h : PlanAt H p) : DGet H p.d (.str "known") (some (.int p.known)) := (kvP_known p.lN p.dR p.lL p.lLast p.far p.known) ▸ DGet.k (k := ky "known") h.pd
theorem PlanAt.gLast (h : PlanAt H p) : DGet H p.d (.str "last") (some (.ref p.lLast)) := (kvP_last p.lN p.dR p.lL p.lLast p.far p.known) ▸ DGet.k (k := ky "last") h.pd
end
section
variable {P : Program} {w : World} {K : PySem.W.Frag} {mg : Str → Option Value} {base : Heap} {f : Addr} {fd : FuncData}
/-! ### worth -/
def WorthOk (kind : Str) (v : V) : Prop := (kind = "land" ∧ ∃ x : Int, v = .int x ∧ 0 ≤ x ∧ x < 10 ^ 54) ∨ (kind = "move" ∧ ∃ o : Option Str, v = vO V.str o ∧ ∀ z, o = some z → IsPl z)
def spWorth : Sp := fun vs H Q _ => ∃ (p : Addr) (kind light : Str), vs = [.ref p, .str kind, .str light] ∧ PotAt H p ∧ (kind = "move" ∨ kind = "land") ∧ IsNm light ∧ ∀ (H' : Hp) (v : V), Kp (· = p) H H' → PotAt H' p → WorthOk kind v → Q v H'
theorem scWorth : FnScope ["_law_pot_here", "_law_kind", "_law_light"] ["_law_pot_here", "_law_kind", "_law_light"] (defScope sLWorth) := ⟨rfl, rfl, rfl, by decide +kernel, rfl, by decide +kernel, by decide +kernel⟩
theorem ne_kinds : ¬ (("move" : Str) = "land") := by decide +kernel
theorem okWorth (F : FnP K "_law_worth" "_law_worth" sLWorth [] f fd) (T : Tx K mg) (UT : Use P w K mg base 1 "_law_take" ["_law_pot_here", "_law_many"] [] spTake) (UF : Use P w K mg base 2 "_law_far" ["_law_pot_here"] [] spFar) :
    FnOk P w K mg base CX0 3 f fd ["_law_pot_here", "_law_kind", "_law_light"] spWorth := by
  refine F.ok scWorth (fun vs H Q E h => ?_) (fun cdv A outer s H vs Q E hr h => ?_)
  · obtain ⟨p, kind, light, rfl, _⟩ := h; rfl
  · obtain ⟨p, kind, light, rfl, hp, hk, hl, q⟩ := h
    refine ⟨_, PSs.nox (pss_cons (ps_if (pt_cmpR op_eq (pv 1) pe_str (nomark _)) (pss_one (ps_ret (pe_ix ix_list (pe_lst (pa_cons pe_int (pa_cons (pe_use UT (hr.mono (by decide)) (by rfl) (pa_cons (pv 0) (pa_cons pe_int pa_nil))) (pa_cons (pe_use UF hr (by rfl) (pa_cons (pv 0) pa_nil)) pa_nil))))
        (pe_use UT (hr.mono (by decide)) (by rfl) (pa_cons (pv 0) (pa_cons pe_int pa_nil))) (fun _ _ => rfl)))) pss_nil)
      (pss_one (ps_ret (pe_ix ix_list (pe_lst (pa_cons (pv 2) (pa_cons (pv 2) (pa_cons (pv 2) (pa_cons pe_str (pa_cons pe_non pa_nil)))))) (pe_use UT (hr.mono (by decide)) (by rfl) (pa_cons (pv 0) (pa_cons pe_int pa_nil))) (fun _ _ => rfl))))), ?_⟩
    refine ⟨_, rfl, rfl, _, rfl, ?_⟩
    rcases hk with rfl | rfl
    · refine ifF (fun z => ne_kinds (V.str.inj z)) ?_
      refine ⟨_, rfl, _, rfl, _, rfl, by show 5 ≤ sizeLine; decide, fun g hg => ?_⟩
      have ng := hp.ne hg
      refine ⟨_, rfl, p, 5, rfl, hp.new hg, by decide, by decide, fun H1 d k1 hp1 d0 d5 => ?_⟩
      have hg1 := k1 _ _ (upd_same (a := g) (o := .lst [V.str light, V.str light, V.str light, V.str "", V.non])) ng
      obtain ⟨v, hv, o, ev, ho⟩ : ∃ v, atI [V.str light, V.str light, V.str light, V.str "", V.non] d = some v ∧ ∃ o : Option Str, v = vO V.str o ∧ ∀ z, o = some z → IsPl z := by
        have : d = 0 ∨ d = 1 ∨ d = 2 ∨ d = 3 ∨ d = 4 := by omega
        rcases this with rfl | rfl | rfl | rfl | rfl
        · exact ⟨_, rfl, some light, rfl, fun z h => by cases h; exact .inr hl⟩
        · exact ⟨_, rfl, some light, rfl, fun z h => by cases h; exact .inr hl⟩
        · exact ⟨_, rfl, some light, rfl, fun z h => by cases h; exact .inr hl⟩
        · exact ⟨_, rfl, some "", rfl, fun z h => by cases h; exact .inl rfl⟩
        · exact ⟨_, rfl, none, rfl, fun z h => by cases h⟩
      exact ⟨g, _, d, v, rfl, rfl, SqL.of hg1, hv, q _ v ((Same.kp (same_upd hg)).trans k1) hp1 (.inr ⟨rfl, o, ev, ho⟩)⟩
    · refine ifT rfl ?_
      refine ⟨_, rfl, p, 30, rfl, hp, by decide, by decide, fun H1 a k1 hp1 a0 a1 => ⟨_, rfl, p, rfl, hp1, fun H2 b k2 hp2 b0 b1 => ⟨by show 3 ≤ sizeLine; decide, fun g hg => ?_⟩⟩⟩
      have ng := hp2.ne hg
      refine ⟨_, rfl, p, 3, rfl, hp2.new hg, by decide, by decide, fun H3 d k3 hp3 d0 d3 => ?_⟩
      have hg3 := k3 _ _ (upd_same (a := g) (o := .lst [V.int 0, V.int a, V.int b])) ng
      obtain ⟨v, hv, x, ev, x0, x1⟩ : ∃ v, atI [V.int 0, V.int a, V.int b] d = some v ∧ ∃ x : Int, v = .int x ∧ 0 ≤ x ∧ x < 10 ^ 54 := by
        have : d = 0 ∨ d = 1 ∨ d = 2 := by omega
        rcases this with rfl | rfl | rfl
        · exact ⟨_, rfl, 0, rfl, by decide, by decide⟩
        · exact ⟨_, rfl, a, rfl, a0, by omega⟩
        · exact ⟨_, rfl, b, rfl, b0, b1⟩
      exact ⟨g, _, d, v, rfl, rfl, SqL.of hg3, hv, q _ v (((k1.trans k2).trans (Same.kp (same_upd hg))).trans k3) hp3 (.inl ⟨rfl, x, ev, x0, x1⟩)⟩
/-! ### event -/
def PlSep (pl : Pl) (p : Addr) : Prop := ¬ pl.lN = p ∧ ¬ pl.lL = p ∧ ¬ pl.lLast = p
structure Evd (H : Hp) (p : Addr) (pl pl' : Pl) (H' : Hp) : Prop where
  kp : Kp (fun c => c = p ∨ c = pl.d) H H'
  pot : PotAt H' p
  d : pl'.d = pl.d
  lN : pl'.lN = pl.lN
  dR : pl'.dR = pl.dR
  lL : pl'.lL = pl.lL
  names : pl'.names = pl.names
  R : pl'.R = pl.R
  lights : pl'.lights = pl.lights
  far : pl'.far = pl.far
  k1 : pl.known ≤ pl'.known
  k9 : pl'.known ≤ pl.known + 9
  new : H pl'.lLast = none
  at_ : PlanAt H' pl'
  ok : PlOk pl'
theorem PlanAt.pot {H H' : Hp} {p : Addr} {pl : Pl} (t : PlanAt H pl) (hp : PotAt H p) (sep : PlSep pl p) (k : Kp (· = p) H H') : PlanAt H' pl := by
  obtain ⟨x, y, e, _⟩ := hp
  exact t.keep k (ne_of t.pd e (by intro z; cases z)) sep.1 sep.2.1 (ne_of t.rk e (by intro z; cases z)) sep.2.2 fun t x h => ne_of h e (by intro z; cases z)
theorem LastAt.off {H : Hp} {l d : Addr} {o : HO} {kvs : List (L2.Key × V)} {e : Option (Str × Str × Int)} (h : LastAt H l e) (hd : H d = some (.dK kvs)) : LastAt (L2.upd H d o) l e := by
  unfold LastAt at h ⊢
  cases e with
  | none =>
    show (L2.upd H d o) l = _
    rw [upd_ne (ne_of h hd (by intro z; cases z))]
    exact h
  | some e =>
    obtain ⟨t, e1, e2⟩ := h
    exact ⟨t, by rw [upd_ne (ne_of e1 hd (by intro z; cases z))]; exact e1, by rw [upd_ne (ne_of e2 hd (by intro z; cases z))]; exact e2⟩
theorem PlanAt.putKnown {H : Hp} {pl : Pl} {k' : Int} (t : PlanAt H pl) : PlanAt (L2.upd H pl.d (.dK (kvP pl.lN pl.dR pl.lL pl.far k' pl.lLast))) { pl with known := k' } := by
  refine ⟨upd_same, ?_, ?_, ?_, t.la.off t.pd, t.rd⟩
  · rw [upd_ne (ne_of t.nm t.pd (by intro z; cases z))]
    exact t.nm
  · rw [upd_ne (ne_of t.lg t.pd (by intro z; cases z))]
    exact t.lg
  · rw [upd_ne t.rd]
    exact t.rk
theorem PlanAt.putLast {H : Hp} {pl : Pl} {ll : Addr} {e : Option (Str × Str × Int)} (t : PlanAt H pl) (h : LastAt H ll e) : PlanAt (L2.upd H pl.d (.dK (kvP pl.lN pl.dR pl.lL pl.far pl.known ll))) { pl with lLast := ll, last := e } := by
  refine ⟨upd_same, ?_, ?_, ?_, h.off t.pd, t.rd⟩
  · rw [upd_ne (ne_of t.nm t.pd (by intro z; cases z))]
    exact t.nm
  · rw [upd_ne (ne_of t.lg t.pd (by intro z; cases z))]
    exact t.lg
  · rw [upd_ne t.rd]
    exact t.rk
/-- the pot was taken from, the plan's dict was changed to pl1 -/
structure Bs (H : Hp) (p : Addr) (pl pl1 : Pl) (H1 : Hp) : Prop where
  kp : Kp (fun c => c = p ∨ c = pl.d) H H1
  pot : PotAt H1 p
  at_ : PlanAt H1 pl1
theorem Bs.step {H H1 H2 : Hp} {p : Addr} {pl pl1 : Pl} (b : Bs H p pl pl1 H1) (sep : PlSep pl1 p) (k : Kp (· = p) H1 H2) (h : PotAt H2 p) : Bs H p pl pl1 H2 :=
  ⟨b.kp.trans (k.mono fun _ => .inl), h, b.at_.pot b.pot sep k⟩
theorem Bs.same {H H1 H2 : Hp} {p : Addr} {pl pl1 : Pl} (b : Bs H p pl pl1 H1) (k : Same H1 H2) : Bs H p pl pl1 H2 := ⟨b.kp.trans (Same.kp k), b.pot.same k, b.at_.same k⟩
theorem atI_in {α : Type} {xs : List α} {f : α → V} {d : Int} (h0 : 0 ≤ d) (h1 : d < (xs.length : Int)) : ∃ x ∈ xs, atI (xs.map f) d = some (f x) := by
  obtain ⟨j, rfl⟩ := Int.eq_ofNat_of_zero_le h0
  have hj : j < xs.length := by omega
  exact ⟨xs[j], List.getElem_mem hj, atI_nat (by rw [List.getElem?_map, List.getElem?_eq_getElem hj]; rfl)⟩
def spEvent : Sp := fun vs H Q _ => ∃ (p : Addr) (pl : Pl), vs = [.ref p, .ref pl.d] ∧ PotAt H p ∧ PlanAt H pl ∧ PlOk pl ∧ PlSep pl p ∧ ∀ (H' : Hp) (t : Addr) (pl' : Pl) (e : Str × Str × Int) (v : V), Evd H p pl pl' H' → pl'.last = some e → EvOk pl.names e → WorthOk e.1 v →
  H' t = some (.tup [.str e.1, .int pl'.known, .str e.2.1, .int e.2.2, v]) → Q (.ref t) H'
theorem scEvent : FnScope ["_law_pot_here", "_law_plan_here", "_law_light", "_law_day", "_law_kind", "_law_name", "_law_way", "_law_last"] ["_law_pot_here", "_law_plan_here"] (defScope sLEvent) := ⟨rfl, rfl, rfl, by decide +kernel, rfl, by decide +kernel, by decide +kernel⟩
theorem okEvent (F : FnP K "_law_event" "_law_event" sLEvent [] f fd) (T : Tx K mg) (UT : Use P w K mg base 1 "_law_take" ["_law_pot_here", "_law_many"] [] spTake) (UW : Use P w K mg base 3 "_law_worth" ["_law_pot_here", "_law_kind", "_law_light"] [] spWorth) :
    FnOk P w K mg base CX0 4 f fd ["_law_pot_here", "_law_plan_here"] spEvent := by
  refine F.ok scEvent (fun vs H Q E h => ?_) (fun cdv A outer s H vs Q E hr h => ?_)
  · obtain ⟨p, pl, rfl, _⟩ := h; rfl
  · obtain ⟨p, pl, rfl, hp, hpl, ok, sep, q⟩ := h
    have hr1 := hr.mono (show 1 ≤ 3 by decide)
    refine ⟨_, PSs.nox (pss_cons (ps_dput (hu_of hr) (pv 1) pe_str (pe_add (pe_dget (hu_of hr) (pv 1) pe_str (fun _ _ => rfl)) (pe_ix ix_list (pe_lst (pa_cons pe_int (pa_cons pe_int (pa_cons pe_int (pa_cons (pe_add pe_int (pe_use UT hr1 (by rfl) (pa_cons (pv 0) (pa_cons pe_int pa_nil)))) pa_nil)))))
          (pe_use UT hr1 (by rfl) (pa_cons (pv 0) (pa_cons pe_int pa_nil))) (fun _ _ => rfl))) rfl)
      (pss_cons (ps_set (i := 2) scEvent.nd rfl (Or.inl rfl) (pe_ix ix_list (pe_dget (hu_of hr) (pv 1) pe_str (fun _ _ => rfl)) (pe_use UT hr1 (by rfl) (pa_cons (pv 0) (pa_cons (pe_callB call_len_seq (by rfl) T.len PySem.boot_len (pa_cons (pe_dget (hu_of hr) (pv 1) pe_str (fun _ _ => rfl)) pa_nil)) pa_nil))) (fun _ _ => rfl)))
      (pss_cons (ps_set (i := 3) scEvent.nd rfl (Or.inl rfl) (pe_add (pe_op op_mul (pe_dget (hu_of hr) (pv 1) pe_str (fun _ _ => rfl)) (pe_use UT hr1 (by rfl) (pa_cons (pv 0) (pa_cons pe_int pa_nil)))) (pe_use UT hr1 (by rfl) (pa_cons (pv 0) (pa_cons pe_int pa_nil)))))
      (pss_cons (ps_par (i := 4) (j := 5) rfl scEvent.nd rfl rfl (by decide) rfl rfl (pa_cons pe_str (pa_cons (pv 2) pa_nil)) rfl)
      (pss_cons (ps_if (PW.pt (pw_and (pt_cmpR (op_neNil hr.units) (pe_dget (hu_of hr) (pv 1) pe_str (fun _ _ => rfl)) (pe_lst pa_nil) (nomark _)) (pw_and1 (pt_cmpR op_gt (pe_use UT hr1 (by rfl) (pa_cons (pv 0) (pa_cons pe_int pa_nil))) pe_int (nomark _)))))
          (pss_one (ps_par (i := 4) (j := 5) rfl scEvent.nd rfl rfl (by decide) rfl rfl (pa_cons pe_str (pa_cons (pe_ix ix_list (pe_dget (hu_of hr) (pv 1) pe_str (fun _ _ => rfl)) (pe_use UT hr1 (by rfl) (pa_cons (pv 0) (pa_cons (pe_callB call_len_seq (by rfl) T.len PySem.boot_len (pa_cons (pe_dget (hu_of hr) (pv 1) pe_str (fun _ _ => rfl)) pa_nil)) pa_nil))) (fun _ _ => rfl)) pa_nil)) rfl)) pss_nil)
      (pss_cons (ps_set (i := 6) scEvent.nd rfl (Or.inl rfl) (pe_use UT hr1 (by rfl) (pa_cons (pv 0) (pa_cons pe_int pa_nil))))
      (pss_cons (ps_for PassesOwn.never rfl (pi_list (pe_dget (hu_of hr) (pv 1) pe_str (fun _ _ => rfl))) (pg_name (i := 7) scEvent.nd rfl (Or.inl rfl))
          (pss_one (ps_if (pt_cmpR op_eq (pv 6) pe_int (nomark _)) (pss_one (ps_asg (pv 7) (pg_tup rfl (pgs_cons (pg_name (i := 4) scEvent.nd rfl (Or.inl rfl)) (pgs_cons (pg_name (i := 5) scEvent.nd rfl (Or.inl rfl)) (pgs_cons (pg_name (i := 3) scEvent.nd rfl (Or.inl rfl)) pgs_nil))))))
            (pss_one (ps_if (pt_cmpR op_eq (pv 6) pe_int (nomark _)) (pss_one (ps_set (i := 3) scEvent.nd rfl (Or.inl rfl) (pe_ix ix_tup (pv 7) pe_int (fun _ _ => rfl)))) pss_nil)))))
      (pss_cons (ps_dput (hu_of hr) (pv 1) pe_str (pe_lst (pa_cons (pe_tup (pa_cons (pv 4) (pa_cons (pv 5) (pa_cons (pv 3) pa_nil)))) pa_nil)) rfl)
      (pss_one (ps_ret (pe_tup (pa_cons (pv 4) (pa_cons (pe_dget (hu_of hr) (pv 1) pe_str (fun _ _ => rfl)) (pa_cons (pv 5) (pa_cons (pv 3) (pa_cons (pe_use UW hr (by rfl) (pa_cons (pv 0) (pa_cons (pv 4) (pa_cons (pv 2) pa_nil)))) pa_nil)))))))))))))))), ?_⟩
    -- known
    refine seq_cut (fun σ H1 => ∃ k' : Int, pl.known ≤ k' ∧ k' ≤ pl.known + 9 ∧ Bs H p pl { pl with known := k' } H1 ∧ σ = [some (.ref p), some (.ref pl.d), none, none, none, none, none, none]) (fun R hR => ?_) ?_
    · refine ⟨_, rfl, pl.d, .int pl.known, rfl, hpl.gKnown, _, rfl, p, 9, rfl, hp, by decide, by decide, fun H1 a k1 hp1 a0 a9 => ⟨1, a, rfl, rfl, by show 4 ≤ sizeLine; decide, fun g hg => ?_⟩⟩
      refine ⟨_, rfl, p, 4, rfl, hp1.new hg, by decide, by decide, fun H2 d k2 hp2 d0 d4 => ?_⟩
      have ng := hp1.ne hg
      have hg2 := k2 _ _ (upd_same (a := g) (o := .lst [V.int 0, V.int 0, V.int 1, V.int (1 + a)])) ng
      obtain ⟨v, hv, v0, v9⟩ : ∃ v : Int, atI [V.int 0, V.int 0, V.int 1, V.int (1 + a)] d = some (.int v) ∧ 0 ≤ v ∧ v ≤ 9 := by
        have : d = 0 ∨ d = 1 ∨ d = 2 ∨ d = 3 := by omega
        rcases this with rfl | rfl | rfl | rfl
        · exact ⟨0, rfl, by decide, by decide⟩
        · exact ⟨0, rfl, by decide, by decide⟩
        · exact ⟨1, rfl, by decide, by decide⟩
        · exact ⟨1 + a, rfl, by omega, by omega⟩
      have b2 : Bs H p pl pl H2 := ((Bs.mk (Same.kp (Same.refl H)) hp hpl : Bs H p pl pl H).step sep k1 hp1).same (same_upd hg) |>.step sep k2 hp2
      refine ⟨g, _, d, .int v, rfl, rfl, SqL.of hg2, hv, pl.known, v, rfl, rfl, _, rfl, pl.d, _, rfl, DPut.k (k := ky "known") b2.at_.pd (by show 6 < sizeLine; decide), ?_⟩
      rw [kvP_putKnown]
      obtain ⟨x, y, ep, _⟩ := b2.pot
      have nd : ¬ p = pl.d := fun z => by
        rw [z, b2.at_.pd] at ep
        cases ep
      refine hR _ _ ⟨pl.known + v, by omega, by omega, ⟨b2.kp.upd (.inr rfl), b2.pot.keep (B := (· = pl.d)) (kp_upd rfl) nd, b2.at_.putKnown⟩, rfl⟩
    rintro σ H1 ⟨k', hk1, hk9, b1, rfl⟩
    generalize epl : { pl with known := k' } = pl1 at b1
    have sep1 : PlSep pl1 p := by rw [← epl]; exact sep
    have ok1 : PlOk pl1 := by rw [← epl]; exact ⟨ok.n4, ok.nn, ok.nr, ok.rk, ok.l0, ok.l3, ok.ln, ok.f0, ok.f1, by have := ok.k0; show 0 ≤ k'; omega, ok.la⟩
    have ed : pl.d = pl1.d := by rw [← epl]
    rw [ed]
    -- the light
    refine seq_cut (fun σ H2 => Bs H p pl pl1 H2 ∧ ∃ lt ∈ pl1.lights, σ = [some (.ref p), some (.ref pl1.d), some (.str lt), none, none, none, none, none]) (fun R hR => ?_) ?_
    · have l0 : 0 < pl1.lights.length := List.length_pos_iff.mpr ok1.l0
      refine ⟨_, rfl, pl1.d, _, rfl, b1.at_.gLights, _, rfl, _, rfl, pl1.d, _, rfl, b1.at_.gLights, pl1.lL, _, rfl, .inl (SqL.of b1.at_.lg), p, _, rfl, b1.pot, by rw [List.length_map]; omega, by rw [List.length_map]; have := ok1.l3; omega, fun H2 d k2 hp2 d0 d1 => ?_⟩
      rw [List.length_map] at d1
      have b2 := b1.step sep1 k2 hp2
      obtain ⟨lt, hlt, e⟩ := atI_in (f := V.str) d0 d1
      exact ⟨pl1.lL, _, d, .str lt, rfl, rfl, SqL.of b2.at_.lg, e, hR _ _ ⟨b2, lt, hlt, rfl⟩⟩
    rintro σ H2 ⟨b2, lt, hlt, rfl⟩
    -- the day
    refine seq_cut (fun σ H3 => Bs H p pl pl1 H3 ∧ ∃ day : Int, 0 ≤ day ∧ day < 2 * 10 ^ 54 ∧ σ = [some (.ref p), some (.ref pl1.d), some (.str lt), some (.int day), none, none, none, none]) (fun R hR => ?_) ?_
    · refine ⟨_, rfl, pl1.d, _, rfl, b2.at_.gFar, _, rfl, p, 2, rfl, b2.pot, by decide, by decide, fun H3 d k3 hp3 d0 d2 => ⟨pl1.far, d, rfl, rfl, .inr ⟨by omega, by omega⟩, _, rfl, p, 24, rfl, hp3, by decide, by decide, fun H4 e k4 hp4 e0 e24 => ⟨_, _, rfl, rfl, ?_⟩⟩⟩
      have b4 := (b2.step sep1 k3 hp3).step sep1 k4 hp4
      have f0 := ok1.f0
      have f1 := ok1.f1
      refine hR _ _ ⟨b4, pl1.far * d + e, ?_, ?_, rfl⟩
      · have : d = 0 ∨ d = 1 := by omega
        rcases this with rfl | rfl <;> omega
      · have : d = 0 ∨ d = 1 := by omega
        rcases this with rfl | rfl <;> omega
    rintro σ H3 ⟨b3, day, day0, day1, rfl⟩
    -- kind and name
    refine seq_cut (fun σ H4 => H4 = H3 ∧ σ = [some (.ref p), some (.ref pl1.d), some (.str lt), some (.int day), some (.str "land"), some (.str lt), none, none]) (fun R hR => ?_) ?_
    · exact ⟨_, rfl, _, _, rfl, hR _ _ ⟨rfl, rfl⟩⟩
    rintro σ H4 ⟨rfl, rfl⟩
    refine seq_cut (fun σ H5 => Bs H p pl pl1 H5 ∧ ∃ kind name, EvOk pl1.names (kind, name, day) ∧ σ = [some (.ref p), some (.ref pl1.d), some (.str lt), some (.int day), some (.str kind), some (.str name), none, none]) (fun R hR => ?_) ?_
    · have ev0 : EvOk pl1.names ("land", lt, day) := ⟨.inr ⟨rfl, ok1.ln _ hlt⟩, day0, day1⟩
      refine ⟨_, rfl, pl1.d, _, rfl, b3.at_.gNames, by decide, fun g hg => ?_⟩
      have b4 := b3.same (same_upd hg (o := .lst []))
      have eg : (L2.upd H4 g (.lst [])) g = some (.lst []) := upd_same
      generalize L2.upd H4 g (.lst []) = H5 at *
      refine ⟨pl1.lN, g, _, rfl, rfl, SqL.of b4.at_.nm, eg, _, rfl, ?_⟩
      cases hns : pl1.names with
      | nil => exact iteF (hR _ _ ⟨b4, _, _, ev0, rfl⟩)
      | cons n0 ns =>
        refine iteT ⟨_, rfl, p, 4, rfl, b4.pot, by decide, by decide, fun H6 d k6 hp6 d0 d4 => ⟨d, 0, rfl, rfl, _, rfl, ?_⟩⟩
        have b6 := b4.step sep1 k6 hp6
        by_cases h0 : 0 < d
        · refine ifT h0 ?_
          have l0 : 0 < pl1.names.length := by rw [hns]; exact Nat.succ_pos _
          refine ⟨_, rfl, pl1.d, _, rfl, b6.at_.gNames, _, rfl, _, rfl, pl1.d, _, rfl, b6.at_.gNames, pl1.lN, _, rfl, .inl (SqL.of b6.at_.nm), p, _, rfl, b6.pot, by rw [List.length_map]; omega, by rw [List.length_map]; have := ok1.n4; omega, fun H7 e k7 hp7 e0 e1 => ?_⟩
          rw [List.length_map] at e1
          have b7 := b6.step sep1 k7 hp7
          obtain ⟨nm, hnm, e⟩ := atI_in (f := V.str) e0 e1
          exact ⟨pl1.lN, _, _, .str nm, rfl, rfl, SqL.of b7.at_.nm, e, _, _, rfl, hR _ _ ⟨b7, "move", nm, ⟨.inl ⟨rfl, hnm⟩, day0, day1⟩, rfl⟩⟩
        · exact ifF h0 (hR _ _ ⟨b6, _, _, ev0, rfl⟩)
    rintro σ H5 ⟨b5, kind, name, ev, rfl⟩
    -- the way
    refine seq_cut (fun σ H6 => Bs H p pl pl1 H6 ∧ ∃ wy : Int, σ = [some (.ref p), some (.ref pl1.d), some (.str lt), some (.int day), some (.str kind), some (.str name), some (.int wy), none]) (fun R hR => ?_) ?_
    · exact ⟨_, rfl, p, 5, rfl, b5.pot, by decide, by decide, fun H6 wy k6 hp6 _ _ => hR _ _ ⟨b5.step sep1 k6 hp6, wy, rfl⟩⟩
    rintro σ H6 ⟨b6, wy, rfl⟩
    refine seq_cut (fun σ H7 => H7 = H6 ∧ ∃ kind name day a7, EvOk pl1.names (kind, name, day) ∧ σ = [some (.ref p), some (.ref pl1.d), some (.str lt), some (.int day), some (.str kind), some (.str name), some (.int wy), a7]) (fun R hR => ?_) ?_
    · obtain ⟨xs, hxs, hall⟩ : ∃ xs, H6 pl1.lLast = some (.lst xs) ∧ ∀ x ∈ xs, ∃ t e, x = V.ref t ∧ H6 t = some (.tup [.str e.1, .str e.2.1, .int e.2.2]) ∧ EvOk pl1.names e := by
        have la := b6.at_.la
        unfold LastAt at la
        cases hl : pl1.last with
        | none =>
          rw [hl] at la
          exact ⟨[], la, fun x h => nomatch h⟩
        | some e =>
          rw [hl] at la
          obtain ⟨t, e1, e2⟩ := la
          exact ⟨_, e1, fun x h => ⟨t, e, List.mem_singleton.mp h, e2, ok1.la e hl⟩⟩
      refine ⟨_, rfl, pl1.d, _, rfl, b6.at_.gLast, pl1.lLast, rfl, ⟨_, SqL.of hxs⟩, for_it (walk_list (xs := xs)) (fun _ σ H7 => H7 = H6 ∧ ∃ kind name day a7, EvOk pl1.names (kind, name, day) ∧ σ = [some (.ref p), some (.ref pl1.d), some (.str lt), some (.int day), some (.str kind), some (.str name), some (.int wy), a7])
        ⟨rfl, kind, name, day, none, ev, rfl⟩ (fun _ _ H7 _ h => by rw [h.1]; exact SqL.of hxs) ?_ (fun σ H7 h => hR _ _ h)⟩
      rintro i x σ H7 H8 hi ⟨rfl, kind, name, day, a7, ev, rfl⟩ ⟨rfl, hx⟩
      obtain ⟨t, e, rfl, ht, he⟩ := hall x (List.mem_of_getElem? hx)
      refine ⟨_, rfl, rfl, _, rfl, ?_⟩
      refine ite2 (fun _ => ?_) (fun _ => ?_)
      · exact ⟨_, rfl, t, _, rfl, SqT.of ht, rfl, _, _, rfl, _, _, rfl, _, _, rfl, rfl, rfl, e.1, e.2.1, e.2.2, some (.ref t), he, rfl⟩
      · refine ⟨_, rfl, rfl, _, rfl, ?_⟩
        refine ite2 (fun _ => ?_) (fun _ => ⟨rfl, kind, name, day, some (.ref t), ev, rfl⟩)
        exact ⟨_, rfl, t, _, 2, .int e.2.2, rfl, rfl, SqT.of ht, atI_nat (j := 2) rfl, rfl, kind, name, e.2.2, some (.ref t), ⟨ev.1, he.2.1, he.2.2⟩, rfl⟩
    rintro σ H7 ⟨rfl, kind, name, day, a7, ev, rfl⟩
    -- what was told last
    refine seq_cut (fun σ H8 => ∃ ll : Addr, H ll = none ∧ Bs H p pl { pl1 with lLast := ll, last := some (kind, name, day) } H8 ∧ ¬ ll = p ∧ σ = [some (.ref p), some (.ref pl1.d), some (.str lt), some (.int day), some (.str kind), some (.str name), some (.int wy), a7]) (fun R hR => ?_) ?_
    · refine ⟨_, rfl, _, rfl, _, rfl, Nat.le_of_lt (sz63 (by show 3 ≤ 64; decide)), fun t ht => ⟨Nat.le_of_lt (sz63 (by show 1 ≤ 64; decide)), fun ll hll => ?_⟩⟩
      have nt : t ≠ ll := fun z => by rw [← z, upd_same] at hll; cases hll
      have hll7 : H7 ll = none := by rw [upd_ne nt.symm] at hll; exact hll
      have b8 := (b6.same (same_upd ht (o := .tup [.str kind, .str name, .int day]))).same (same_upd hll (o := .lst [.ref t]))
      have nlp := b6.pot.ne hll7
      have nld : ¬ ll = pl.d := fun z => by
        have h := b6.at_.pd
        rw [← ed, ← z, hll7] at h
        cases h
      obtain ⟨x, y, ep, _⟩ := b8.pot
      have npd : ¬ p = pl.d := fun z => by
        rw [z, ed, b8.at_.pd] at ep
        cases ep
      refine ⟨_, rfl, pl1.d, _, rfl, DPut.k (k := ky "last") b8.at_.pd (by show 6 < sizeLine; decide), ?_⟩
      rw [kvP_putLast]
      refine hR _ _ ⟨ll, b6.kp.free hll7 (by rintro (z | z); exact nlp z; exact nld z), ⟨b8.kp.upd (.inr ed.symm), b8.pot.keep (B := (· = pl1.d)) (kp_upd rfl) (ed ▸ npd), ?_⟩, nlp, rfl⟩
      exact b8.at_.putLast (e := some (kind, name, day)) ⟨t, upd_same, by rw [upd_ne nt, upd_same]⟩
    rintro σ H8 ⟨ll, fll, b8, nlp, rfl⟩
    have sep2 : PlSep { pl1 with lLast := ll, last := some (kind, name, day) } p := ⟨sep1.1, sep1.2.1, nlp⟩
    refine ⟨_, rfl, _, rfl, pl1.d, _, rfl, b8.at_.gKnown, _, rfl, _, rfl, _, rfl, _, rfl, _, rfl, p, kind, lt, rfl, b8.pot, ev.1.imp And.left And.left, ok1.ln _ hlt, fun H9 v k9 hp9 hw => ⟨Nat.le_of_lt (sz63 (by show 5 ≤ 64; decide)), fun t ht => ?_⟩⟩
    have b10 := (b8.step sep2 k9 hp9).same (same_upd ht (o := .tup [.str kind, .int pl1.known, .str name, .int day, v]))
    have ek : pl1.known = k' := by rw [← epl]
    have en : pl1.names = pl.names := by rw [← epl]
    refine q _ t { pl1 with lLast := ll, last := some (kind, name, day) } (kind, name, day) v ⟨b10.kp, b10.pot, ed.symm, by rw [← epl], by rw [← epl], by rw [← epl], by rw [← epl], by rw [← epl], by rw [← epl], by rw [← epl], by show pl.known ≤ pl1.known; omega, by show pl1.known ≤ _; omega, fll, b10.at_, ?_⟩ rfl (en ▸ ev) hw upd_same
    exact ⟨ok1.n4, ok1.nn, ok1.nr, ok1.rk, ok1.l0, ok1.l3, ok1.ln, ok1.f0, ok1.f1, ok1.k0, fun e h => by cases h; exact ev⟩
end
end LT
namespace LT
open PySem PySem.Spec PyProof.Rows L2
section
variable {P : Program} {w : World} {K : PySem.W.Frag} {mg : Str → Option Value} {base : Heap} {f : Addr} {fd : FuncData}
/-! ### between -/
def spBetween : Sp := fun vs H Q _ => ∃ (p : Addr) (a c : Int), vs = [.ref p, .int a, .int c] ∧ PotAt H p ∧ a < c ∧ c ≤ a + 9 ∧ ∀ (H' : Hp) (l : Addr) (d : Int), Kp (· = p) H H' → PotAt H' p → H l = none → 0 ≤ d → d < c - a → H' l = some (.lst ([a, c - 1, a + d].map V.int)) → Q (.ref l) H'
theorem scBetween : FnScope ["_law_pot_here", "_law_last", "_law_later"] ["_law_pot_here", "_law_last", "_law_later"] (defScope sLBetween) := ⟨rfl, rfl, rfl, by decide +kernel, rfl, by decide +kernel, by decide +kernel⟩
theorem okBetween (F : FnP K "_law_between" "_law_between" sLBetween [] f fd) (UT : Use P w K mg base 1 "_law_take" ["_law_pot_here", "_law_many"] [] spTake) : FnOk P w K mg base CX0 2 f fd ["_law_pot_here", "_law_last", "_law_later"] spBetween := by
  refine F.ok scBetween (fun vs H Q E h => ?_) (fun cdv A outer s H vs Q E hr h => ?_)
  · obtain ⟨p, a, c, rfl, _⟩ := h; rfl
  · obtain ⟨p, a, c, rfl, hp, h1, h9, q⟩ := h
    refine ⟨_, PSs.nox (pss_one (ps_ret (pe_lst (pa_cons (pv 1) (pa_cons (pe_sub (pv 2) pe_int) (pa_cons (pe_add (pv 1) (pe_use UT hr (by rfl) (pa_cons (pv 0) (pa_cons (pe_sub (pv 2) (pv 1)) pa_nil)))) pa_nil)))))), ?_⟩
    refine ⟨_, rfl, _, rfl, c, 1, rfl, rfl, _, rfl, _, rfl, _, rfl, _, rfl, c, a, rfl, rfl, p, c - a, rfl, hp, by omega, by omega, fun H1 d k1 hp1 d0 d1 => ⟨a, d, rfl, rfl, Nat.le_of_lt (sz63 (by show 3 ≤ 64; decide)), fun l hl => ?_⟩⟩
    exact q _ l d (k1.trans (Same.kp (same_upd hl))) (hp1.new hl) (k1.free hl (hp1.ne hl)) d0 d1 upd_same
/-! ### tell -/
def TellOk (b b' : Bk) (e : Int) (name : Str) (day : Int) : Prop :=
  (∃ o : Option Str, b'.M = tellT b.M (name, day) e o ∧ (∀ z, o = some z → IsPl z) ∧ b'.L = b.L) ∨ ∃ x : Int, b'.L = tellT b.L (name, day) e (some x) ∧ 0 ≤ x ∧ x < 10 ^ 54 ∧ b'.M = b.M
structure BkLim (b : Bk) : Prop where
  nd : (b.lsM ++ b.lsL).Nodup
  lM : b.M.length ≤ 60
  lL : b.L.length ≤ 60
  rM : ∀ en ∈ b.M, en.2.length ≤ 60
  rL : ∀ en ∈ b.L, en.2.length ≤ 60
def spLTell (K : PySem.W.Frag) : Sp := fun vs H Q _ => ∃ (b : Bk) (t : Addr) (ev : Str × Str × Int) (e : Int) (v : V) (names : List Str), vs = [.ref b.p, .ref t] ∧ H t = some (.tup [.str ev.1, .int e, .str ev.2.1, .int ev.2.2, v]) ∧ BookAt K H b ∧ BkLim b ∧ 0 ≤ e ∧ tlOk b.tl e ∧
  EvOk names ev ∧ (∀ z ∈ names, z ∈ b.R.map (·.1)) ∧ WorthOk ev.1 v ∧ ∀ b' H', ToldTo K H b b' e H' → TellOk b b' e ev.2.1 ev.2.2 → Q (.bl true) H'
theorem scLTell : FnScope ["_law_book", "_law_event_here", "_law_kind", "_law_known", "_law_name", "_law_day", "_law_worth_here"] ["_law_book", "_law_event_here"] (defScope sLTell) := ⟨rfl, rfl, rfl, by decide +kernel, rfl, by decide +kernel, by decide +kernel⟩
theorem fB_tell (dR dM dL : Addr) (tl : V) : (fldsB dR dM dL tl).lookup ("tell" : Str) = none := fldsB_no _ _ _ _ (by decide +kernel) (by decide +kernel) (by decide +kernel) (by decide +kernel)
theorem fB_land (dR dM dL : Addr) (tl : V) : (fldsB dR dM dL tl).lookup ("land" : Str) = none := fldsB_no _ _ _ _ (by decide +kernel) (by decide +kernel) (by decide +kernel) (by decide +kernel)
theorem okLTell (F : FnP K "_law_tell" "_law_tell" sLTell [] f fd) (T : Tx K mg) (U1 : UseM P w K mg base 3 (cB K) "tell" ["self", "known", "keeper", "day", "place"] [] (spTell K)) (U2 : UseM P w K mg base 3 (cB K) "land" ["self", "known", "light", "day", "weight"] [] (spLand K)) :
    FnOk P w K mg base CX0 4 f fd ["_law_book", "_law_event_here"] (spLTell K) := by
  refine F.ok scLTell (fun vs H Q E h => ?_) (fun cdv A outer s H vs Q E hr h => ?_)
  · obtain ⟨b, t, ev, e, v, names, rfl, _⟩ := h; rfl
  · obtain ⟨b, t, ev, e, v, names, rfl, ht, B, lim, e0, htl, hev, hn, hw, q⟩ := h
    refine ⟨_, PSs.nox (pss_cons (ps_asg (pv 1) (pg_tup rfl (pgs_cons (pg_name (i := 2) scLTell.nd rfl (Or.inl rfl)) (pgs_cons (pg_name (i := 3) scLTell.nd rfl (Or.inl rfl)) (pgs_cons (pg_name (i := 4) scLTell.nd rfl (Or.inl rfl)) (pgs_cons (pg_name (i := 5) scLTell.nd rfl (Or.inl rfl)) (pgs_cons (pg_name (i := 6) scLTell.nd rfl (Or.inl rfl)) pgs_nil)))))))
      (pss_cons (ps_if (pt_cmpR op_eq (pv 2) pe_str (nomark _)) (pss_one (ps_ret (pe_cmpR op_isN (pe_useM (pv 0) T.clB U1 hr (pa_cons (pv 3) (pa_cons (pv 4) (pa_cons (pv 5) (pa_cons (pv 6) pa_nil))))) pe_non (nomark _)))) pss_nil)
      (pss_one (ps_ret (pe_cmpR op_isN (pe_useM (pv 0) T.clB U2 hr (pa_cons (pv 3) (pa_cons (pv 4) (pa_cons (pv 5) (pa_cons (pv 6) pa_nil))))) pe_non (nomark _)))))), ?_⟩
    obtain ⟨dx, hp⟩ := B.ob
    refine ⟨_, rfl, t, _, rfl, SqT.of ht, rfl, _, _, rfl, _, _, rfl, _, _, rfl, _, _, rfl, _, _, rfl, rfl, ?_⟩
    refine ⟨_, rfl, rfl, _, rfl, ?_⟩
    rcases hw with ⟨hk, x, rfl, x0, x1⟩ | ⟨hk, o, rfl, ho⟩
    · have hnm : IsNm ev.2.1 := by
        rcases hev.1 with h | h
        · exact absurd (h.1.symm.trans hk) ne_kinds
        · exact h.2
      refine ifF (fun z => ne_kinds ((V.str.inj z).symm.trans hk)) ?_
      refine ⟨_, rfl, b.p, dx, _, rfl, hp, fB_land _ _ _ _, _, rfl, _, rfl, _, rfl, _, rfl, b, e, ev.2.2, ev.2.1, x, rfl, B, lim.nd, lim.lL, lim.rL, e0, hev.2.1, hnm, x0, htl, fun b' H' td eL eM => ⟨rfl, ?_⟩⟩
      exact q b' H' td (.inr ⟨x, eL, x0, x1, eM⟩)
    · have hnm : ev.2.1 ∈ b.R.map (·.1) := by
        rcases hev.1 with h | h
        · exact hn _ h.2
        · exact absurd (hk.symm.trans h.1) ne_kinds
      refine ifT (by rw [hk]) ?_
      refine ⟨_, rfl, b.p, dx, _, rfl, hp, fB_tell _ _ _ _, _, rfl, _, rfl, _, rfl, _, rfl, b, e, ev.2.2, ev.2.1, o, rfl, B, lim.nd, lim.lM, lim.rM, e0, hev.2.1, hnm, ho, htl, fun b' H' td eM eL => ⟨rfl, ?_⟩⟩
      exact q b' H' td (.inl ⟨o, eM, ho, eL⟩)
end
end LT
/-! What the law sees of a book, as a text; what stays of it; how long it is. -/
namespace LT
open PySem PySem.Spec PyProof.Rows L2
/-! ### the text -/
def turnText (x : Str × Int × Option Int) : Str := tupleText [reprText x.1, strS x.2.1 x.2.2]
def obsT (M : Tb Str) (k : Option Int) (n : Str) : Str := listText ((turnsF (runsF (held V.str k n M))).map turnText)
def obsW (M : Tb Str) (days : List Int) (k : Option Int) (n : Str) : Str := listText (days.map fun d => reprText (whereF (held V.str k n M) d))
def keepT (R : List (Str × Int)) (M : Tb Str) (k : Option Int) (z : Str) (d : Int) : Str := listText (((chargeF R M z d k).map fun e => e.2.2).map reprText)
def obsK (R : List (Str × Int)) (M : Tb Str) (days : List Int) (k : Option Int) (z : Str) : Str := listText (days.map (keepT R M k z))
def sumT (L : Tb Int) (k : Option Int) (z : Str) (d : Int) : Str := Str.ofString (toString (landF (held V.int k z L) d).sum)
def obsL (L : Tb Int) (days : List Int) (k : Option Int) (z : Str) : Str := listText (days.map (sumT L k z))
def obsAll (R : List (Str × Int)) (M : Tb Str) (L : Tb Int) (names lights : List Str) (days : List Int) (k : Option Int) : List Str :=
  (names.flatMap fun n => [obsT M k n, obsW M days k n]) ++ (lights ++ [("" : Str)]).map (obsK R M days k) ++ lights.map (obsL L days k)
def obs (R : List (Str × Int)) (M : Tb Str) (L : Tb Int) (names lights : List Str) (days : List Int) (k : Option Int) : Str := listText (obsAll R M L names lights days k)
theorem obs_congr {R : List (Str × Int)} {M M' : Tb Str} {L L' : Tb Int} {names lights : List Str} {days : List Int} {k k' : Option Int} (hM : ∀ n, heldU k n M = heldU k' n M') (hL : ∀ n, heldU k n L = heldU k' n L') :
    obs R M L names lights days k = obs R M' L' names lights days k' := by
  have h1 : ∀ n, held V.str k n M = held V.str k' n M' := fun n => by unfold held; rw [hM]
  have h2 : ∀ n, held V.int k n L = held V.int k' n L' := fun n => by unfold held; rw [hL]
  have e1 : obsT M k = obsT M' k' := by funext n; unfold obsT; rw [h1]
  have e2 : obsW M days k = obsW M' days k' := by funext n; unfold obsW; rw [h1]
  have e3 : obsK R M days k = obsK R M' days k' := by
    funext z
    unfold obsK
    congr 1
    congr 1
    funext d
    unfold keepT chargeF chargeU
    congr 3
    congr 1
    congr 1
    funext e
    rw [h1]
  have e4 : obsL L days k = obsL L' days k' := by
    funext z
    unfold obsL
    congr 1
    congr 1
    funext d
    unfold sumT
    rw [h2]
  unfold obs obsAll
  rw [e1, e2, e3, e4]
theorem obs_tell {b b' : Bk} {e : Int} {name : Str} {day : Int} {names lights : List Str} {days : List Int} {k : Option Int} (t : TellOk b b' e name day) (h : upTo k e = false) :
    obs b.R b'.M b'.L names lights days k = obs b.R b.M b.L names lights days k := by
  rcases t with ⟨o, eM, _, eL⟩ | ⟨x, eL, _, _, eM⟩
  · exact obs_congr (fun n => by rw [eM, heldU_tell h]) (fun n => by rw [eL])
  · exact obs_congr (fun n => by rw [eM]) (fun n => by rw [eL, heldU_tell h])
theorem obs_all {R : List (Str × Int)} {M : Tb Str} {L : Tb Int} {names lights : List Str} {days : List Int} {K : Int} {k : Option Int} (hM : Told K M) (hL : Told K L) (h : upTo k K = true) :
    obs R M L names lights days k = obs R M L names lights days none := obs_congr (fun n => heldU_all hM k h n) (fun n => heldU_all hL k h n)
/-! ### how long -/
theorem listText_le (ts : List Str) : (listText ts).length ≤ 2 + piled ts := by
  unfold listText
  rw [strLen_append]
  cases ts with
  | nil => exact (by decide +kernel : (textFrom 0 "[" []).length + ("]" : Str).length ≤ 2 + piled [])
  | cons t r =>
    have h := textFrom_length_pos r 1 (("[" : Str) ++ (if (0 : Nat) > 0 then ", " else "" : String) ++ t) (Nat.succ_pos 0)
    have e : ((("[" : Str) ++ (if (0 : Nat) > 0 then ", " else "" : String) ++ t)).length = 1 + t.length := by
      rw [strLen_append, strLen_append]; rfl
    have e2 : (textFrom 0 "[" (t :: r)).length = 1 + t.length + piled r := by
      show (textFrom 1 _ r).length = _
      rw [h, e]
    rw [e2, piled_cons]
    show _ + 1 ≤ _
    omega
theorem tupleText_le (ts : List Str) : (tupleText ts).length ≤ 3 + piled ts := by
  unfold tupleText
  rw [strLen_append, strLen_append]
  have e1 : ((("(" : String) : Str)).length = 1 := rfl
  have e3 : (((if ts.length == 1 then ",)" else ")" : String) : Str)).length ≤ 2 := by split <;> decide
  by_cases h : ts = []
  · subst h
    have e4 : (Str.join ", " []).length = 0 := rfl
    omega
  · have := join_length_add ts h
    omega
theorem piled_le {ts : List Str} {B : Nat} (h : ∀ t ∈ ts, t.length ≤ B) : piled ts ≤ ts.length * (B + 2) := by
  induction ts with
  | nil => exact Nat.zero_le _
  | cons t r ih =>
    rw [piled_cons, List.length_cons, Nat.succ_mul]
    have h1 := h t (List.mem_cons_self ..)
    have h2 := ih fun x hx => h x (List.mem_cons_of_mem _ hx)
    omega
theorem listText_len {ts : List Str} {n B : Nat} (hn : ts.length ≤ n) (h : ∀ t ∈ ts, t.length ≤ B) : (listText ts).length ≤ 2 + n * (B + 2) := by
  have h1 := listText_le ts
  have h2 := piled_le h
  have h3 := Nat.mul_le_mul_right (B + 2) hn
  omega
theorem sm_of {i : Int} (h : i.natAbs < 10 ^ 60) : Sm i := by
  unfold Sm
  by_cases h0 : i.natAbs = 0
  · rw [h0]; decide
  · rw [Nat.log2_lt h0]
    exact Nat.lt_of_lt_of_le (Nat.lt_trans h (by decide : 10 ^ 60 < 2 ^ 200)) (Nat.pow_le_pow_right (by decide) (by decide))
theorem pl_repr {z : Str} (h : IsPl z) : (reprText z).length ≤ 82 := by
  have h8 : z.length ≤ 8 ∧ ∀ c ∈ z.cps.toList, c < 16 ^ 8 := by
    rcases h with rfl | ⟨_, h2, h3⟩
    · exact ⟨by decide, fun c hc => nomatch hc⟩
    · exact ⟨h2, fun c hc => Nat.lt_of_le_of_lt (h3 c hc).2 (by decide)⟩
  have := StrLaws.reprText_len z h8.2
  omega
theorem strS_len {a : Int} {l : Option Int} (ha : Sm a) (hl : SmO l) : (strS a l).length ≤ 3900 := by
  have z1 := int_text_len_1921 ha
  cases l with
  | none =>
    unfold strS
    rw [strLen_append, strLen_append, strLen_append]
    have e1 : Str.empty.length = 0 := rfl
    have e2 : ("Stretch(" : Str).length = 8 := by decide
    have e3 : (")" : Str).length = 1 := by decide
    omega
  | some l =>
    have z2 := int_text_len_1921 (i := l) hl
    unfold strS
    rw [strLen_append, strLen_append, strLen_append, strLen_append, strLen_append]
    have e1 : Str.empty.length = 0 := rfl
    have e2 : ("Stretch(" : Str).length = 8 := by decide
    have e3 : (")" : Str).length = 1 := by decide
    have e4 : (", " : Str).length = 2 := by decide
    omega
end LT
/-! What holds of a book's values: days in order, names and numbers short. -/
namespace LT
open PySem PySem.Spec PyProof.Rows L2
structure BkVal (b : Bk) : Prop where
  kM : (b.M.map (·.1)).Nodup
  dM : ∀ en ∈ b.M, 0 ≤ en.1.2 ∧ en.1.2 < 2 * 10 ^ 54 ∧ ∀ r ∈ en.2, ∀ z, r.2 = some z → IsPl z
  vL : ∀ en ∈ b.L, ∀ r ∈ en.2, ∀ x, r.2 = some x → 0 ≤ x ∧ x < 10 ^ 54
theorem eqv_int_ne {a b : Int} (h : b < a) : PyData.eqv (.int b) (.int a) = false := by
  cases e : PyData.eqv (.int b) (.int a) with
  | false => rfl
  | true =>
    have q : (b == a) = true := e
    have := beq_iff_eq.mp q
    omega
theorem held_sorted {k : Option Int} {n : Str} {M : Tb Str} (h : (M.map (·.1)).Nodup) : (held V.str k n M).Pairwise fun p q => p.1 < q.1 := by
  have h1 : (held V.str k n M).Pairwise fun p q => p.1 ≤ q.1 := by
    refine (srt_le (rowH V.str) (heldU k n M)).imp fun {a b} q => ?_
    refine Classical.byContradiction fun hn => ?_
    have hlt : b.1 < a.1 := by omega
    have e : PySem.W.dataLt (dTup (rowH V.str b)) (dTup (rowH V.str a)) = true := by
      show PySem.W.dataLt (.tuple [.int b.1, .str b.2]) (.tuple [.int a.1, .str a.2]) = true
      rw [PySem.W.dataLt_pair rfl rfl, eqv_int_ne hlt, if_neg Bool.false_ne_true, PySem.W.dataLt_int]
      exact decide_eq_true hlt
    rw [e] at q
    cases q
  have h2 : ((held V.str k n M).map (·.1)).Nodup := ((srt_perm (rowH V.str) (heldU k n M)).map (·.1)).nodup_iff.mpr (heldU_days h)
  have h3 : (held V.str k n M).Pairwise fun p q => p.1 ≠ q.1 := List.pairwise_map.mp h2
  exact (h1.and h3).imp fun {a b} q => by have := q.1; have := q.2; omega
theorem held_vals {b : Bk} (v : BkVal b) {k : Option Int} {n : Str} : ∀ p ∈ held V.str k n b.M, 0 ≤ p.1 ∧ p.1 < 2 * 10 ^ 54 ∧ IsPl p.2 := by
  intro p hp
  have hp2 : p ∈ heldU k n b.M := (srt_perm (rowH V.str) (heldU k n b.M)).mem_iff.mp hp
  obtain ⟨e, he, e1, e2⟩ := mem_heldU hp2
  obtain ⟨d0, d1, hz⟩ := v.dM e he
  rw [e1] at d0 d1
  obtain ⟨r, hr, e3⟩ := lastTold_mem e2
  exact ⟨d0, d1, hz r hr _ e3⟩
/-- good runs: places, first days from 0 on in order, all below D -/
structure RunsIn (runs : List (Str × Int)) (D : Int) : Prop where
  pl : ∀ r ∈ runs, IsPl r.1
  d0 : ∀ r ∈ runs, 0 ≤ r.2
  d1 : ∀ r ∈ runs, r.2 < D
  so : runs.Pairwise fun a b => a.2 < b.2
theorem runs_step {acc : List (Str × Int)} {D : Int} {r : Int × Str} (h : RunsIn acc D) (hz : IsPl r.2) (h0 : r.1 = 0 ∨ D ≤ r.1) (hp : 0 ≤ r.1) (hD : 0 < D) : RunsIn (runsStep acc r) (max D (r.1 + 1)) := by
  have up : ∀ x, x < D → x < max D (r.1 + 1) := fun x hx => by omega
  unfold runsStep
  split
  · refine ⟨fun x hx => ?_, fun x hx => ?_, fun x hx => ?_, List.pairwise_singleton _ _⟩
    · rw [List.mem_singleton.mp hx]; exact hz
    · rw [List.mem_singleton.mp hx]; exact Int.le_refl _
    · rw [List.mem_singleton.mp hx]; show (0 : Int) < _; omega
  · rename_i hn
    split
    · exact ⟨h.pl, h.d0, fun x hx => up _ (h.d1 x hx), h.so⟩
    · have hle : D ≤ r.1 := h0.resolve_left hn
      refine ⟨fun x hx => ?_, fun x hx => ?_, fun x hx => ?_, ?_⟩
      · rcases List.mem_append.mp hx with hx | hx
        · exact h.pl x hx
        · rw [List.mem_singleton.mp hx]; exact hz
      · rcases List.mem_append.mp hx with hx | hx
        · exact h.d0 x hx
        · rw [List.mem_singleton.mp hx]; exact hp
      · rcases List.mem_append.mp hx with hx | hx
        · exact up _ (h.d1 x hx)
        · rw [List.mem_singleton.mp hx]; show r.1 < _; omega
      · rw [List.pairwise_append]
        refine ⟨h.so, List.pairwise_singleton _ _, fun a ha c hc => ?_⟩
        rw [List.mem_singleton.mp hc]
        have := h.d1 a ha
        show a.2 < r.1
        omega
theorem runs_in {mv : List (Int × Str)} (hs : mv.Pairwise fun p q => p.1 < q.1) (hv : ∀ p ∈ mv, 0 ≤ p.1 ∧ p.1 < 2 * 10 ^ 54 ∧ IsPl p.2) : RunsIn (runsF mv) (2 * 10 ^ 54) := by
  have go : ∀ (l : List (Int × Str)) (acc : List (Str × Int)) (D : Int), 0 < D → D ≤ 2 * 10 ^ 54 → RunsIn acc D → l.Pairwise (fun p q => p.1 < q.1) → (∀ p ∈ l, (p.1 = 0 ∨ D ≤ p.1) ∧ 0 ≤ p.1 ∧ p.1 < 2 * 10 ^ 54 ∧ IsPl p.2) → RunsIn (l.foldl runsStep acc) (2 * 10 ^ 54) := by
    intro l
    induction l with
    | nil => intro acc D h0 h1 h _ _; exact ⟨h.pl, h.d0, fun r hr => by have := h.d1 r hr; omega, h.so⟩
    | cons r l ih =>
      intro acc D h0 h1 h hs hv
      obtain ⟨q1, q2, q3, q4⟩ := hv r (List.mem_cons_self ..)
      rw [List.pairwise_cons] at hs
      refine ih (runsStep acc r) (max D (r.1 + 1)) (by omega) (by omega) (runs_step h q4 q1 q2 h0) hs.2 fun p hp => ?_
      obtain ⟨w1, w2, w3, w4⟩ := hv p (List.mem_cons_of_mem _ hp)
      have lt := hs.1 p hp
      refine ⟨?_, w2, w3, w4⟩
      rcases w1 with w1 | w1
      · exfalso; omega
      · exact .inr (by omega)
  unfold runsF
  refine go mv [("", 0)] 1 (by decide) (by decide) ⟨fun r hr => ?_, fun r hr => ?_, fun r hr => ?_, List.pairwise_singleton _ _⟩ hs fun p hp => ?_
  · rw [List.mem_singleton.mp hr]; exact .inl rfl
  · rw [List.mem_singleton.mp hr]; exact Int.le_refl _
  · rw [List.mem_singleton.mp hr]; decide
  · obtain ⟨w1, w2, w3⟩ := hv p hp
    exact ⟨by omega, w1, w2, w3⟩
theorem RunsIn.ok {runs : List (Str × Int)} {D : Int} (h : RunsIn runs D) : RunsOk runs := ⟨h.d0, h.so⟩
theorem book_runs {b : Bk} (v : BkVal b) (k : Option Int) (n : Str) : RunsIn (runsF (held V.str k n b.M)) (2 * 10 ^ 54) := runs_in (held_sorted v.kM) (held_vals v)
/-- all turns' texts are short -/
def TurnSm (x : Str × Int × Option Int) : Prop := IsPl x.1 ∧ Sm x.2.1 ∧ SmO x.2.2
theorem turns_sm {runs : List (Str × Int)} (h : RunsIn runs (2 * 10 ^ 54)) : ∀ x ∈ turnsF runs, TurnSm x := by
  intro x hx
  unfold turnsF at hx
  obtain ⟨i, hi, rfl⟩ := List.mem_mapIdx.mp hx
  have m := List.getElem_mem hi
  refine ⟨h.pl _ m, sm_of ?_, ?_⟩
  · have h0 := h.d0 _ m
    have h1 := h.d1 _ m
    show (runs[i].2).natAbs < _
    omega
  · show SmO ((runs[i + 1]?).map fun q => q.2 - 1)
    cases e : runs[i + 1]? with
    | none => trivial
    | some q =>
      have m2 := List.mem_of_getElem? e
      have h0 := h.d0 _ m2
      have h1 := h.d1 _ m2
      refine sm_of ?_
      show (q.2 - 1).natAbs < _
      omega
theorem whereF_pl {mv : List (Int × Str)} (h : ∀ p ∈ mv, IsPl p.2) (d : Int) : IsPl (whereF mv d) := by
  have go : ∀ (l : List (Int × Str)) (acc : Str), IsPl acc → (∀ p ∈ l, IsPl p.2) → IsPl (l.foldl (fun acc r => if r.1 ≤ d then r.2 else acc) acc) := by
    intro l
    induction l with
    | nil => intro acc h _; exact h
    | cons r l ih =>
      intro acc ha h
      refine ih _ ?_ fun p hp => h p (List.mem_cons_of_mem _ hp)
      show IsPl (if r.1 ≤ d then r.2 else acc)
      split
      · exact h r (List.mem_cons_self ..)
      · exact ha
  exact go mv "" (.inl rfl) h
theorem sum_sm {b : Bk} (v : BkVal b) (lm : b.L.length ≤ 60) (k : Option Int) (n : Str) (d : Int) : Sm (landF (held V.int k n b.L) d).sum := by
  have hv : ∀ x ∈ landF (held V.int k n b.L) d, 0 ≤ x ∧ x < 10 ^ 54 := by
    intro x hx
    obtain ⟨p, hp, e⟩ := List.mem_filterMap.mp hx
    split at e
    · cases e
      have hp2 : p ∈ heldU k n b.L := (srt_perm (rowH V.int) (heldU k n b.L)).mem_iff.mp hp
      obtain ⟨en, he, _, e2⟩ := mem_heldU hp2
      obtain ⟨r, hr, e3⟩ := lastTold_mem e2
      exact v.vL en he r hr _ e3
    · cases e
  have hl : (landF (held V.int k n b.L) d).length ≤ 60 := Nat.le_trans (landF_len _ _) (Nat.le_trans (held_len _ _ _ _) lm)
  have go : ∀ l : List Int, (∀ x ∈ l, 0 ≤ x ∧ x < 10 ^ 54) → 0 ≤ l.sum ∧ l.sum ≤ l.length * 10 ^ 54 := by
    intro l
    induction l with
    | nil => intro _; exact ⟨Int.le_refl _, Int.le_refl _⟩
    | cons x l ih =>
      intro h
      obtain ⟨h1, h2⟩ := ih fun y hy => h y (List.mem_cons_of_mem _ hy)
      obtain ⟨h3, h4⟩ := h x (List.mem_cons_self ..)
      rw [List.sum_cons, List.length_cons]
      have : ((l.length + 1 : Nat) : Int) * 10 ^ 54 = (l.length : Int) * 10 ^ 54 + 10 ^ 54 := by
        rw [Int.natCast_add, Int.add_mul]; rfl
      omega
  obtain ⟨h1, h2⟩ := go _ hv
  refine sm_of ?_
  generalize (landF (held V.int k n b.L) d).sum = S at *
  generalize (landF (held V.int k n b.L) d).length = m at *
  omega
theorem chargeF_nm {R : List (Str × Int)} (h : ∀ e ∈ R, IsNm e.1) (M : Tb Str) (z : Str) (d : Int) (k : Option Int) : ∀ e ∈ chargeF R M z d k, IsNm e.2.2 := by
  intro e he
  have he2 : e ∈ chargeU M z d k R := (srt_perm row3 _).mem_iff.mp he
  obtain ⟨x, hx, q⟩ := List.mem_filterMap.mp he2
  split at q
  · cases q
    exact h x hx
  · cases q
end LT
namespace LT
open PySem PySem.Spec PyProof.Rows L2
/-! ### what is shown, in the heap -/
/-- the heap without F -/
def off (F : Addr) (H : Hp) : Hp := fun b => if b = F then none else H b
theorem off_ne {F b : Addr} {H : Hp} (h : b ≠ F) : off F H b = H b := if_neg h
theorem off_self {F : Addr} {H : Hp} : off F H F = none := if_pos rfl
theorem off_upd {F : Addr} {H : Hp} {o : HO} : off F (L2.upd H F o) = off F H := by
  funext b
  unfold off
  by_cases h : b = F
  · rw [if_pos h, if_pos h]
  · rw [if_neg h, if_neg h, upd_ne h]
theorem off_same {F : Addr} {H H' : Hp} (s : Same H H') : Same (off F H) (off F H') := fun b o e => by
  unfold off at e ⊢
  by_cases h : b = F
  · rw [if_pos h] at e; cases e
  · rw [if_neg h] at e ⊢; exact s b o e
theorem off_le {F : Addr} {H : Hp} : Same (off F H) H := fun b o e => by
  unfold off at e
  by_cases h : b = F
  · rw [if_pos h] at e; cases e
  · rw [if_neg h] at e; exact e
inductive ItemAt (K : PySem.W.Frag) (H : Hp) : V → Str → Prop where
  | iTurns {F : Addr} {ts : List Addr} {xs : List (Str × Int × Option Int)} (h : H F = some (.lst (ts.map V.ref))) (p : Paired (TurnAt K H) ts xs) (s : ∀ x ∈ xs, TurnSm x) : ItemAt K H (.ref F) (listText (xs.map turnText))
  | iStrs {l : Addr} {zs : List Str} (h : H l = some (.lst (zs.map V.str))) (s : ∀ z ∈ zs, IsPl z) : ItemAt K H (.ref l) (listText (zs.map reprText))
  | iInts {l : Addr} {ns : List Int} (h : H l = some (.lst (ns.map V.int))) (s : ∀ n ∈ ns, Sm n) : ItemAt K H (.ref l) (listText (ns.map fun n => Str.ofString (toString n)))
  | iLists {l : Addr} {ls : List Addr} {zss : List (List Str)} (h : H l = some (.lst (ls.map V.ref))) (p : Paired (fun a zs => a ≠ l ∧ H a = some (.lst (zs.map V.str))) ls zss) (s : ∀ zs ∈ zss, ∀ z ∈ zs, IsPl z) : ItemAt K H (.ref l) (listText (zss.map fun zs => listText (zs.map reprText)))
theorem ItemAt.same {K : PySem.W.Frag} {H H' : Hp} {x : V} {t : Str} (i : ItemAt K H x t) (s : Same H H') : ItemAt K H' x t := by
  cases i with
  | iTurns h p q => exact .iTurns (s _ _ h) (Paired.mapP p fun a b h => h.keep fun c o e _ => s c o e) q
  | iStrs h q => exact .iStrs (s _ _ h) q
  | iInts h q => exact .iInts (s _ _ h) q
  | iLists h p q => exact .iLists (s _ _ h) (Paired.mapP p fun a b h => ⟨h.1, s _ _ h.2⟩) q
section
variable {X : Cx} {G : Addr → Prop} {H0 : Hp}
theorem paired_map {α β γ : Type} {F : α → γ → Prop} {g : β → γ} : ∀ {as : List α} {bs : List β}, Paired (fun a b => F a (g b)) as bs → Paired F as (bs.map g)
  | _, _, .nil => .nil
  | _, _, .cons r t => .cons r (paired_map t)
theorem paired_mapL {α β γ : Type} {F : γ → β → Prop} {g : α → γ} : ∀ {as : List α} {bs : List β}, Paired (fun a b => F (g a) b) as bs → Paired F (as.map g) bs
  | _, _, .nil => .nil
  | _, _, .cons r t => .cons r (paired_mapL t)
theorem paired_mem {α β : Type} {F G : α → β → Prop} : ∀ {as : List α} {bs : List β}, Paired F as bs → (∀ a b, b ∈ bs → F a b → G a b) → Paired G as bs
  | _, _, .nil, _ => .nil
  | _, _, .cons r t, h => .cons (h _ _ (List.mem_cons_self ..) r) (paired_mem t fun a b hb => h a b (List.mem_cons_of_mem _ hb))
theorem paired_self {α β γ : Type} {F : β → γ → Prop} (g : α → β) (k : α → γ) : ∀ {as : List α}, (∀ a ∈ as, F (g a) (k a)) → Paired F (as.map g) (as.map k)
  | [], _ => .nil
  | a :: as, h => .cons (h a (List.mem_cons_self ..)) (paired_self g k fun x hx => h x (List.mem_cons_of_mem _ hx))
theorem line82 {n : Nat} (h : n ≤ 82) : n ≤ sizeLine := by rw [sizeLine_eq]; omega
theorem rh_strs {n : Nat} {l : Addr} {zs : List Str} (h : H0 l = some (.lst (zs.map V.str))) (ng : ¬ G l) (s : ∀ z ∈ zs, IsPl z) : RH X (n + 1) G H0 (.ref l) (listText (zs.map reprText)) :=
  RH.list h ng (paired_self V.str reprText fun z hz => RH.str (line82 (pl_repr (s z hz))))
theorem rh_turn {t : Addr} {x : Str × Int × Option Int} (UR : UseM X.prog X.w X.K X.mg X.base 1 (cS X.K) "__repr__" ["self"] [] (spSRepr X.K)) (h : TurnAt X.K H0 t x) (ng : ¬ G t) (s : TurnSm x) : RH X 2 G H0 (.ref t) (turnText x) := by
  obtain ⟨st, dx, h1, h2⟩ := h
  obtain ⟨f, fd, ds, F, hm, hb, hd⟩ := UR.ex
  cases hd
  refine RH.tuple h1 ng (.cons (RH.str (line82 (pl_repr s.1))) (.cons ?_ .nil))
  exact RH.own h2 hm F hb fun H Q sm q => ⟨st, dx, x.2.1, x.2.2, rfl, sm _ _ h2, s.2.1, s.2.2, q H (Same.refl H)⟩
theorem ItemAt.rh {x : V} {t : Str} (UR : UseM X.prog X.w X.K X.mg X.base 1 (cS X.K) "__repr__" ["self"] [] (spSRepr X.K)) (i : ItemAt X.K H0 x t) (hG : ∀ c, G c → H0 c = none) : RH X 3 G H0 x t := by
  have ngo : ∀ c o, H0 c = some o → ¬ G c := fun c o e z => by rw [hG c z] at e; cases e
  cases i with
  | @iTurns F ts xs h p s =>
    refine RH.list h (ngo _ _ h) (paired_mapL (paired_map (paired_mem p fun a b hb q => rh_turn UR q ?_ (s b hb))))
    obtain ⟨st, dx, h1, _⟩ := q
    rintro (z | z)
    · exact ngo _ _ h1 z
    · exact ne_of h1 h (by intro z; cases z) z
  | iStrs h s => exact rh_strs h (ngo _ _ h) s
  | @iInts l ns h s => exact RH.list h (ngo _ _ h) (paired_self V.int (fun n : Int => Str.ofString (toString n)) fun n hn => RH.int (s n hn))
  | @iLists l ls zss h p s =>
    refine RH.list h (ngo _ _ h) (paired_mapL (paired_map (paired_mem p fun a b hb q => (rh_strs (n := 0) q.2 ?_ (s b hb)).more (Same.refl _) (by decide))))
    rintro (z | z)
    · exact ngo _ _ q.2 z
    · exact q.1 z
end
/-- the list of what is shown, without itself in the way -/
def FoundAt (K : PySem.W.Frag) (H : Hp) (F : Addr) (ts : List Str) : Prop := ∃ xs, H F = some (.lst xs) ∧ Paired (ItemAt K (off F H)) xs ts
theorem FoundAt.same {K : PySem.W.Frag} {H H' : Hp} {F : Addr} {ts : List Str} (h : FoundAt K H F ts) (s : Same H H') : FoundAt K H' F ts := by
  obtain ⟨xs, h1, h2⟩ := h
  exact ⟨xs, s _ _ h1, Paired.mapP h2 fun a b i => i.same (off_same s)⟩
theorem FoundAt.app {K : PySem.W.Frag} {H : Hp} {F : Addr} {ts : List Str} {xs : List V} {x : V} {t : Str} (h : Paired (ItemAt K (off F H)) xs ts) (i : ItemAt K (off F H) x t) : FoundAt K (L2.upd H F (.lst (xs ++ [x]))) F (ts ++ [t]) :=
  ⟨xs ++ [x], upd_same, by rw [off_upd]; exact paired_append h (.cons i .nil)⟩
end LT
namespace LT
open PySem PySem.Spec PyProof.Rows L2
theorem obs_len {b : Bk} {names lights : List Str} {days : List Int} {k : Option Int} (v : BkVal b) (lim : BkLim b) (rk : RkOk b.R) (n4 : names.length ≤ 4) (l3 : lights.length ≤ 3) (d2 : days.length ≤ 2) :
    (obs b.R b.M b.L names lights days k).length ≤ sizeLine := by
  have hT : ∀ n, (obsT b.M k n).length ≤ 243453 := fun n => by
    have hr := book_runs v k n
    have lr : (turnsF (runsF (held V.str k n b.M))).length ≤ 61 := by
      unfold turnsF
      rw [List.length_mapIdx]
      have := runsF_len (held V.str k n b.M)
      have := held_len V.str k n b.M
      have := lim.lM
      omega
    have := listText_len (ts := (turnsF (runsF (held V.str k n b.M))).map turnText) (n := 61) (B := 3989) (by rw [List.length_map]; exact lr) fun t ht => by
      obtain ⟨x, hx, rfl⟩ := List.mem_map.mp ht
      have hs := turns_sm hr x hx
      have h1 := tupleText_le [reprText x.1, strS x.2.1 x.2.2]
      have h2 := pl_repr hs.1
      have h3 := strS_len hs.2.1 hs.2.2
      rw [piled_cons, piled_cons, piled_nil] at h1
      show (tupleText _).length ≤ _
      omega
    exact this
  have hW : ∀ n, (obsW b.M days k n).length ≤ 243453 := fun n => by
    have := listText_len (ts := days.map fun d => reprText (whereF (held V.str k n b.M) d)) (n := 2) (B := 82) (by rw [List.length_map]; exact d2) fun t ht => by
      obtain ⟨d, hd, rfl⟩ := List.mem_map.mp ht
      exact pl_repr (whereF_pl (fun p hp => (held_vals v p hp).2.2) d)
    show (listText _).length ≤ _
    omega
  have hK : ∀ z, (obsK b.R b.M days k z).length ≤ 243453 := fun z => by
    have := listText_len (ts := days.map (keepT b.R b.M k z)) (n := 2) (B := 2522) (by rw [List.length_map]; exact d2) fun t ht => by
      obtain ⟨d, hd, rfl⟩ := List.mem_map.mp ht
      have := listText_len (ts := ((chargeF b.R b.M z d k).map fun e => e.2.2).map reprText) (n := 30) (B := 82) (by rw [List.length_map, List.length_map]; exact Nat.le_trans (chargeF_len _ _ _ _ _) rk.1) fun t ht => by
        obtain ⟨y, hy, rfl⟩ := List.mem_map.mp ht
        obtain ⟨e, he, rfl⟩ := List.mem_map.mp hy
        exact pl_repr (.inr (chargeF_nm (fun e he => (rk.2 e he).1) _ _ _ _ e he))
      show (listText _).length ≤ _
      omega
    show (listText _).length ≤ _
    omega
  have hL : ∀ z, (obsL b.L days k z).length ≤ 243453 := fun z => by
    have := listText_len (ts := days.map (sumT b.L k z)) (n := 2) (B := 1921) (by rw [List.length_map]; exact d2) fun t ht => by
      obtain ⟨d, hd, rfl⟩ := List.mem_map.mp ht
      exact int_text_len_1921 (sum_sm v lim.lL k z d)
    show (listText _).length ≤ _
    omega
  have hl : (obsAll b.R b.M b.L names lights days k).length ≤ 15 := by
    unfold obsAll
    rw [List.length_append, List.length_append, List.length_map, List.length_map, List.length_append]
    have : ∀ l : List Str, (l.flatMap fun n => [obsT b.M k n, obsW b.M days k n]).length = 2 * l.length := by
      intro l
      induction l with
      | nil => rfl
      | cons x l ih =>
        rw [List.flatMap_cons, List.length_append, ih, List.length_cons]
        show 2 + 2 * l.length = 2 * (l.length + 1)
        omega
    rw [this]
    show _ + (_ + 1) + _ ≤ _
    omega
  have := listText_len (ts := obsAll b.R b.M b.L names lights days k) (n := 15) (B := 243453) hl fun t ht => by
    unfold obsAll at ht
    rcases List.mem_append.mp ht with ht | ht
    · rcases List.mem_append.mp ht with ht | ht
      · obtain ⟨n, _, ht⟩ := List.mem_flatMap.mp ht
        rcases List.mem_cons.mp ht with rfl | ht
        · exact hT n
        · rw [List.mem_singleton.mp ht]
          exact hW n
      · obtain ⟨z, _, rfl⟩ := List.mem_map.mp ht
        exact hK z
    · obtain ⟨z, _, rfl⟩ := List.mem_map.mp ht
      exact hL z
  have e := sizeLine_eq
  unfold obs
  omega
section
variable {P : Program} {w : World} {K : PySem.W.Frag} {mg : Str → Option Value} {base : Heap} {f : Addr} {fd : FuncData}
structure UB (P : Program) (w : World) (K : PySem.W.Frag) (mg : Str → Option Value) (base : Heap) : Prop where
  turns : Use P w K mg base 4 "turns" ["book", "keeper", "known"] [] (spTurns K)
  where_ : UseM P w K mg base 4 (cB K) "where" ["self", "keeper", "day", "known"] [] (spWhere K)
  keepers : Use P w K mg base 5 "keepers_at" ["book", "place", "day", "known"] [] (spKeepersAt K)
  landed : UseM P w K mg base 4 (cB K) "landed" ["self", "light", "day", "known"] [] (spLanded K)
  repr : UseM P w K mg base 1 (cS K) "__repr__" ["self"] [] (spSRepr K)
/-- what _law_known_then asks -/
structure Sees (K : PySem.W.Frag) (H : Hp) (b : Bk) (pl : Pl) (dl : Addr) (days : List Int) : Prop where
  B : BookAt K H b
  lim : BkLim b
  val : BkVal b
  pa : PlanAt H pl
  ok : PlOk pl
  eR : b.R = pl.R
  dl : H dl = some (.lst (days.map V.int))
  d2 : days.length ≤ 2
  d0 : ∀ d ∈ days, 0 ≤ d
theorem Sees.same {H H' : Hp} {b : Bk} {pl : Pl} {dl : Addr} {days : List Int} (s : Sees K H b pl dl days) (k : Same H H') : Sees K H' b pl dl days := ⟨s.B.same k, s.lim, s.val, s.pa.same k, s.ok, s.eR, k _ _ s.dl, s.d2, s.d0⟩
abbrev obsB (b : Bk) (pl : Pl) (days : List Int) (k : Option Int) : Str := obs b.R b.M b.L pl.names pl.lights days k
def spKnown (K : PySem.W.Frag) : Sp := fun vs H Q _ => ∃ (b : Bk) (pl : Pl) (dl : Addr) (days : List Int) (k : Option Int), vs = [.ref b.p, .ref pl.d, .ref dl, vK k] ∧ Sees K H b pl dl days ∧ KOk k ∧ ∀ H', Same H H' → Q (.str (obsB b pl days k)) H'
def ob1 (M : Tb Str) (days : List Int) (k : Option Int) (ns : List Str) : List Str := ns.flatMap fun n => [obsT M k n, obsW M days k n]
theorem ob1_snoc (M : Tb Str) (days : List Int) (k : Option Int) (ns : List Str) (n : Str) : ob1 M days k (ns ++ [n]) = (ob1 M days k ns ++ [obsT M k n]) ++ [obsW M days k n] := by
  unfold ob1
  rw [List.flatMap_append, List.append_assoc]
  rfl
theorem ob1_len (M : Tb Str) (days : List Int) (k : Option Int) : ∀ ns : List Str, (ob1 M days k ns).length = 2 * ns.length
  | [] => rfl
  | n :: ns => by
    have ih := ob1_len M days k ns
    show ([obsT M k n, obsW M days k n] ++ ob1 M days k ns).length = 2 * (ns.length + 1)
    rw [List.length_append, ih]
    show 2 + _ = _
    omega
theorem fB_where (dR dM dL : Addr) (tl : V) : (fldsB dR dM dL tl).lookup ("where" : Str) = none := fldsB_no _ _ _ _ (by decide +kernel) (by decide +kernel) (by decide +kernel) (by decide +kernel)
theorem fB_landed (dR dM dL : Addr) (tl : V) : (fldsB dR dM dL tl).lookup ("landed" : Str) = none := fldsB_no _ _ _ _ (by decide +kernel) (by decide +kernel) (by decide +kernel) (by decide +kernel)
theorem scKnown : FnScope ["_law_book", "_law_plan_here", "_law_days", "_law_known", "_law_found", "_law_name", "_law_light", "_law_day"] ["_law_book", "_law_plan_here", "_law_days", "_law_known"] (defScope sLKnownThen) := ⟨rfl, rfl, rfl, by decide +kernel, rfl, by decide +kernel, by decide +kernel⟩
theorem okKnown (F : FnP K "_law_known_then" "_law_known_then" sLKnownThen [] f fd) (T : Tx K mg) (U : UB P w K mg base) : FnG P w K mg base 6 f fd ["_law_book", "_law_plan_here", "_law_days", "_law_known"] (spKnown K) := by
  refine okG F scKnown (fun vs H Q E h => ?_) (fun cdv A outer s H vs Q gd hr h => ?_)
  · obtain ⟨b, pl, dl, days, k, rfl, _⟩ := h; rfl
  · obtain ⟨b, pl, dl, days, k, rfl, S, hk, q⟩ := h
    have hr4 := hr.mono (show 4 ≤ 5 by decide)
    refine ⟨_, PSs.nox (pss_cons (ps_set (i := 4) scKnown.nd rfl (Or.inl rfl) (pe_lst pa_nil))
      (pss_cons (ps_for PassesOwn.never rfl (pi_list (pe_dget (hu_of hr) (pv 1) pe_str (fun _ _ => rfl))) (pg_name (i := 5) scKnown.nd rfl (Or.inr rfl))
        (pss_cons (ps_expr (pe_bm PySem.F.plainAttrs_list PySem.F.slot_list_append PySem.F.type_list_append mt_append (pv 4) (pa_cons (pe_use U.turns hr4 (by rfl) (pa_cons (pv 0) (pa_cons (pv 5) (pa_cons (pv 3) pa_nil)))) pa_nil)))
        (pss_one (ps_expr (pe_bm PySem.F.plainAttrs_list PySem.F.slot_list_append PySem.F.type_list_append mt_append (pv 4) (pa_cons (pe_lc (own := [("_law_day", 7)]) (g := gName 7) (tt := tYes) rfl scKnown.nd (pi_list (pv 2))
            (blkOk_by (N := ["_law_book", "_law_plan_here", "_law_days", "_law_known", "_law_found", "_law_name", "_law_light", "_law_day"]) (sc := defScope sLKnownThen) (by decide +kernel))
            (fun _ _ _ _ _ => pg_name (i := 7) scKnown.nd rfl (Or.inl rfl)) (fun _ _ _ _ _ => pts_nil) (fun _ _ _ _ _ => pe_useM (pv 0) T.clB U.where_ hr4 (pa_cons (pv 5) (pa_cons (pv 7) (pa_cons (pv 3) pa_nil))))) pa_nil))))))
      (pss_cons (ps_for PassesOwn.never rfl (pi_list (pe_op op_cat (pe_dget (hu_of hr) (pv 1) pe_str (fun _ _ => rfl)) (pe_lst (pa_cons pe_str pa_nil)))) (pg_name (i := 6) scKnown.nd rfl (Or.inr rfl))
        (pss_one (ps_expr (pe_bm PySem.F.plainAttrs_list PySem.F.slot_list_append PySem.F.type_list_append mt_append (pv 4) (pa_cons (pe_lc (own := [("_law_day", 7)]) (g := gName 7) (tt := tYes) rfl scKnown.nd (pi_list (pv 2))
            (blkOk_by (N := ["_law_book", "_law_plan_here", "_law_days", "_law_known", "_law_found", "_law_name", "_law_light", "_law_day"]) (sc := defScope sLKnownThen) (by decide +kernel))
            (fun _ _ _ _ _ => pg_name (i := 7) scKnown.nd rfl (Or.inl rfl)) (fun _ _ _ _ _ => pts_nil) (fun _ _ _ _ _ => pe_use U.keepers hr (by rfl) (pa_cons (pv 0) (pa_cons (pv 6) (pa_cons (pv 7) (pa_cons (pv 3) pa_nil)))))) pa_nil)))))
      (pss_cons (ps_for PassesOwn.never rfl (pi_list (pe_dget (hu_of hr) (pv 1) pe_str (fun _ _ => rfl))) (pg_name (i := 6) scKnown.nd rfl (Or.inr rfl))
        (pss_one (ps_expr (pe_bm PySem.F.plainAttrs_list PySem.F.slot_list_append PySem.F.type_list_append mt_append (pv 4) (pa_cons (pe_lc (own := [("_law_day", 7)]) (g := gName 7) (tt := tYes) rfl scKnown.nd (pi_list (pv 2))
            (blkOk_by (N := ["_law_book", "_law_plan_here", "_law_days", "_law_known", "_law_found", "_law_name", "_law_light", "_law_day"]) (sc := defScope sLKnownThen) (by decide +kernel))
            (fun _ _ _ _ _ => pg_name (i := 7) scKnown.nd rfl (Or.inl rfl)) (fun _ _ _ _ _ => pts_nil) (fun _ _ _ _ _ => pe_useM (pv 0) T.clB U.landed hr4 (pa_cons (pv 6) (pa_cons (pv 7) (pa_cons (pv 3) pa_nil))))) pa_nil)))))
      (pss_one (ps_ret (pe_callB (cr_repr (n := 3) gd hr) (by rfl) T.repr (by decide +kernel) (pa_cons (pv 4) pa_nil)))))))), ?_⟩
    refine seq_cut (fun σ H1 => ∃ F : Addr, H F = none ∧ Same H H1 ∧ FoundAt K H1 F [] ∧ σ = [some (.ref b.p), some (.ref pl.d), some (.ref dl), some (vK k), some (.ref F), none, none, none]) (fun R hR => ?_) ?_
    · exact ⟨by decide, fun F hF => hR _ _ ⟨F, hF, same_upd hF, ⟨[], upd_same, .nil⟩, rfl⟩⟩
    rintro σ H1 ⟨F, fF, s1, fa1, rfl⟩
    -- turns and places
    refine seq_cut (fun σ H2 => Same H H2 ∧ FoundAt K H2 F (ob1 b.M days k pl.names) ∧ ∃ a5 a6 a7, σ = [some (.ref b.p), some (.ref pl.d), some (.ref dl), some (vK k), some (.ref F), a5, a6, a7]) (fun R hR => ?_) ?_
    · have S1 := S.same s1
      refine ⟨_, rfl, pl.d, _, rfl, S1.pa.gNames, pl.lN, rfl, ⟨_, SqL.of S1.pa.nm⟩, for_it (walk_list (xs := pl.names.map V.str)) (fun i σ H2 => Same H H2 ∧ FoundAt K H2 F (ob1 b.M days k (pl.names.take i)) ∧ ∃ a5 a6 a7, σ = [some (.ref b.p), some (.ref pl.d), some (.ref dl), some (vK k), some (.ref F), a5, a6, a7])
        ⟨s1, fa1, none, none, none, rfl⟩ (fun i σ H2 _ h => SqL.of (S.same h.1).pa.nm) ?_ ?_⟩
      · rintro i x σ H2 H3 hi ⟨s2, fa2, a5, a6, a7, rfl⟩ ⟨rfl, hx⟩
        rw [List.length_map] at hi
        rw [List.getElem?_map, List.getElem?_eq_getElem hi] at hx
        cases hx
        have hn : pl.names[i] ∈ b.R.map (·.1) := by
          rw [S.eR]
          exact S.ok.nr _ (List.getElem_mem hi)
        have l8 := ob1_len b.M days k (pl.names.take i)
        rw [List.length_take] at l8
        have n4 := S.ok.n4
        have eT : ob1 b.M days k (pl.names.take (i + 1)) = (ob1 b.M days k (pl.names.take i) ++ [obsT b.M k pl.names[i]]) ++ [obsW b.M days k pl.names[i]] := by
          rw [List.take_succ_eq_append_getElem hi, ob1_snoc]
        refine seq_cut (fun σ H4 => Same H H4 ∧ FoundAt K H4 F (ob1 b.M days k (pl.names.take i) ++ [obsT b.M k pl.names[i]]) ∧ σ = [some (.ref b.p), some (.ref pl.d), some (.ref dl), some (vK k), some (.ref F), some (.str pl.names[i]), a6, a7]) (fun R hR => ?_) ?_
        · obtain ⟨xs, hF2, hP2⟩ := fa2
          have lx := Paired.length hP2
          have S2 := S.same s2
          refine ⟨_, rfl, .inl ⟨rfl, _, SqL.of hF2⟩, _, rfl, _, rfl, _, rfl, b, pl.names[i], k, rfl, S2.B, S2.lim.lM, hn, hk, (book_runs S.val k _).ok, fun H4 F' ts s4 fF' hF' hP => ?_⟩
          have hF4 := s4 _ _ hF2
          refine ⟨F, _, _, rfl, rfl, hF4, sz63 (by omega), ?_⟩
          have it : ItemAt K (off F H4) (.ref F') (obsT b.M k pl.names[i]) := by
            refine .iTurns (ts := ts) (by rw [off_ne (ne_of_none hF2 fF').symm]; exact hF') (Paired.mapP hP fun a x h => h.keep fun c o e hno => ?_) (turns_sm (book_runs S.val k _))
            rw [off_ne fun z => hno xs (Option.some.inj ((z ▸ e).symm.trans hF4))]
            exact e
          exact hR _ _ ⟨fun c o h => by rw [upd_ne (ne_of_none h fF)]; exact s4 _ _ (s2 _ _ h), FoundAt.app (Paired.mapP hP2 fun a c q => q.same (off_same s4)) it, rfl⟩
        rintro σ H4 ⟨s4, ⟨xs, hF4, hP4⟩, rfl⟩
        have S4 := S.same s4
        obtain ⟨dx, hbp⟩ := S4.B.ob
        have lx := Paired.length hP4
        rw [List.length_append] at lx
        have lx2 : xs.length ≤ 20 := by
          have e1 : [obsT b.M k pl.names[i]].length = 1 := rfl
          omega
        refine ⟨_, rfl, .inl ⟨rfl, _, SqL.of hF4⟩, _, rfl, dl, rfl, ⟨_, SqL.of S4.dl⟩, fun D hD => lc_it (walk_list (xs := days.map V.int)) (fun j H5 => Same H4 H5 ∧ H5 D = some (.lst (((days.take j).map fun d => whereF (held V.str k pl.names[i] b.M) d).map V.str))) ⟨same_upd hD, upd_same⟩ (fun j H5 _ h => SqL.of (S4.same h.1).dl) ?_ ?_⟩
        · rintro j y H5 H6 hj ⟨s5, hD5⟩ ⟨rfl, hy⟩
          rw [List.length_map] at hj
          rw [List.getElem?_map, List.getElem?_eq_getElem hj] at hy
          cases hy
          have S5 := S4.same s5
          have d2 := S.d2
          refine ⟨rfl, ?_⟩
          refine ⟨_, rfl, b.p, dx, _, rfl, s5 _ _ hbp, fB_where _ _ _ _, _, rfl, _, rfl, _, rfl, b, pl.names[i], days[j], k, rfl, S5.B, S5.lim.lM, hn, S.d0 _ (List.getElem_mem hj), hk, fun H7 s7 => ⟨_, s7 _ _ hD5, by rw [List.length_map, List.length_map, List.length_take]; exact sz63 (by omega), fun c o e => ?_, ?_⟩⟩
          · rw [upd_ne (ne_of_none e hD)]
            exact s7 _ _ (s5 _ _ e)
          · rw [upd_same, List.take_succ_eq_append_getElem hj, List.map_append, List.map_append]
            rfl
        · rintro H5 ⟨s5, hD5⟩
          rw [List.length_map, List.take_length] at hD5
          have nDF : D ≠ F := (ne_of_none hF4 hD).symm
          have hF5 := s5 _ _ hF4
          refine ⟨F, _, _, rfl, rfl, hF5, sz63 (by omega), ?_⟩
          have it : ItemAt K (off F H5) (.ref D) (obsW b.M days k pl.names[i]) := by
            have e : obsW b.M days k pl.names[i] = listText ((days.map fun d => whereF (held V.str k pl.names[i] b.M) d).map reprText) := by
              unfold obsW
              rw [List.map_map]
              rfl
            rw [e]
            refine .iStrs (by rw [off_ne nDF]; exact hD5) fun z hz => ?_
            obtain ⟨d, _, rfl⟩ := List.mem_map.mp hz
            exact whereF_pl (fun p hp => (held_vals S.val p hp).2.2) d
          refine ⟨fun c o h => by rw [upd_ne (ne_of_none h fF)]; exact s5 _ _ (s4 _ _ h), ?_, some (.str pl.names[i]), a6, a7, rfl⟩
          rw [eT]
          exact FoundAt.app (Paired.mapP hP4 fun a c q => q.same (off_same s5)) it
      · rintro σ H2 ⟨s2, fa2, a5, a6, a7, rfl⟩
        rw [List.length_map, List.take_length] at fa2
        exact hR _ _ ⟨s2, fa2, a5, a6, a7, rfl⟩
    rintro σ H2 ⟨s2, fa2, a5, a6, a7, rfl⟩
    have n4 := S.ok.n4
    have l3 := S.ok.l3
    have d2 := S.d2
    have lo1 := ob1_len b.M days k pl.names
    -- who is at each place
    refine seq_cut (fun σ H3 => Same H H3 ∧ FoundAt K H3 F (ob1 b.M days k pl.names ++ (pl.lights ++ [("" : Str)]).map (obsK b.R b.M days k)) ∧ ∃ a5 a6 a7, σ = [some (.ref b.p), some (.ref pl.d), some (.ref dl), some (vK k), some (.ref F), a5, a6, a7]) (fun R hR => ?_) ?_
    · have S2 := S.same s2
      refine ⟨_, rfl, pl.d, _, rfl, S2.pa.gLights, by decide, fun g hg => ?_⟩
      have sg : Same H2 (L2.upd H2 g (.lst [.str ""])) := same_upd hg
      have eg : (L2.upd H2 g (.lst [.str ""])) g = some (.lst [.str ""]) := upd_same
      generalize L2.upd H2 g (.lst [.str ""]) = H3 at *
      have S3 := S2.same sg
      refine ⟨pl.lL, g, _, _, rfl, rfl, S3.pa.lg, eg, by rw [List.length_map]; exact Nat.le_of_lt (sz63 (by show _ + 1 ≤ 64; omega)), fun lq hlq => ?_⟩
      have sq : Same H3 (L2.upd H3 lq (.lst (pl.lights.map V.str ++ [.str ""]))) := same_upd hlq
      have eq : (L2.upd H3 lq (.lst (pl.lights.map V.str ++ [.str ""]))) lq = some (.lst ((pl.lights ++ [("" : Str)]).map V.str)) := by
        rw [upd_same, List.map_append]
        rfl
      generalize L2.upd H3 lq (.lst (pl.lights.map V.str ++ [.str ""])) = H4 at *
      have s4 : Same H H4 := (s2.trans sg).trans sq
      have fa4 := (fa2.same sg).same sq
      have nqF : lq ≠ F := by
        obtain ⟨xs, h, _⟩ := fa2.same sg
        exact (ne_of_none h hlq).symm
      have hpl : ∀ z ∈ pl.lights ++ [("" : Str)], IsPl z := fun z hz => by
        rcases List.mem_append.mp hz with hz | hz
        · exact .inr (S.ok.ln z hz)
        · exact .inl (List.mem_singleton.mp hz)
      have lz : (pl.lights ++ [("" : Str)]).length ≤ 4 := by rw [List.length_append]; show _ + 1 ≤ 4; omega
      generalize pl.lights ++ [("" : Str)] = zs at *
      refine ⟨lq, rfl, ⟨_, SqL.of eq⟩, for_it (walk_list (xs := zs.map V.str)) (fun i σ H5 => Same H H5 ∧ H5 lq = some (.lst (zs.map V.str)) ∧ FoundAt K H5 F (ob1 b.M days k pl.names ++ (zs.take i).map (obsK b.R b.M days k)) ∧ ∃ a5 a6 a7, σ = [some (.ref b.p), some (.ref pl.d), some (.ref dl), some (vK k), some (.ref F), a5, a6, a7])
        ⟨s4, eq, by rw [List.take_zero, List.map_nil, List.append_nil]; exact fa4, a5, a6, a7, rfl⟩ (fun i σ H5 _ h => SqL.of h.2.1) ?_ ?_⟩
      · rintro i x σ H5 H6 hi ⟨s5, hq5, ⟨xs, hF5, hP5⟩, a5, a6, a7, rfl⟩ ⟨rfl, hx⟩
        rw [List.length_map] at hi
        rw [List.getElem?_map, List.getElem?_eq_getElem hi] at hx
        cases hx
        have S5 := S.same s5
        have lx := Paired.length hP5
        rw [List.length_append, List.length_map, List.length_take] at lx
        have lx2 : xs.length ≤ 20 := by omega
        have eT : ob1 b.M days k pl.names ++ (zs.take (i + 1)).map (obsK b.R b.M days k) = (ob1 b.M days k pl.names ++ (zs.take i).map (obsK b.R b.M days k)) ++ [obsK b.R b.M days k zs[i]] := by
          rw [List.take_succ_eq_append_getElem hi, List.map_append, List.append_assoc]
          rfl
        refine ⟨_, rfl, .inl ⟨rfl, _, SqL.of hF5⟩, _, rfl, dl, rfl, ⟨_, SqL.of S5.dl⟩, fun D hD => lc_it (walk_list (xs := days.map V.int)) (fun j H7 => Same H6 H7 ∧ ∃ (ls : List Addr) (zss : List (List Str)), H7 D = some (.lst (ls.map V.ref)) ∧ zss = (days.take j).map (fun d => (chargeF b.R b.M zs[i] d k).map fun e => e.2.2) ∧
            Paired (fun a (ys : List Str) => a ≠ D ∧ a ≠ F ∧ H7 a = some (.lst (ys.map V.str))) ls zss) ⟨same_upd hD, [], [], upd_same, rfl, .nil⟩ (fun j H7 _ h => SqL.of (S5.same h.1).dl) ?_ ?_⟩
        · rintro j y H7 H8 hj ⟨s7, ls, zss, hD7, ez, hP7⟩ ⟨rfl, hy⟩
          rw [List.length_map] at hj
          rw [List.getElem?_map, List.getElem?_eq_getElem hj] at hy
          cases hy
          have S7 := S5.same s7
          have ll := Paired.length hP7
          have lzs : zss.length ≤ 2 := by rw [ez, List.length_map, List.length_take]; omega
          refine ⟨rfl, ?_⟩
          refine ⟨_, rfl, _, rfl, _, rfl, _, rfl, b, zs[i], days[j], k, rfl, S7.B, S7.lim.lM, by rw [S.eR]; exact S.ok.rk.1, hpl _ (List.getElem_mem hi), S.d0 _ (List.getElem_mem hj), hk, fun H9 l s9 fl hl => ⟨_, s9 _ _ hD7, by rw [List.length_map]; exact sz63 (by omega), ?_⟩⟩
          have nlD : l ≠ D := (ne_of_none hD7 fl).symm
          have nlF : l ≠ F := (ne_of_none (s7 _ _ hF5) fl).symm
          refine ⟨fun c o e => by rw [upd_ne (ne_of_none e hD)]; exact s9 _ _ (s7 _ _ e), ls ++ [l], zss ++ [(chargeF b.R b.M zs[i] days[j] k).map fun e => e.2.2], by rw [upd_same, List.map_append]; rfl, ?_, ?_⟩
          · rw [List.take_succ_eq_append_getElem hj, List.map_append, ez]
            rfl
          · refine paired_append (Paired.mapP hP7 fun a ys h => ⟨h.1, h.2.1, ?_⟩) (.cons ⟨nlD, nlF, ?_⟩ .nil)
            · rw [upd_ne h.1]
              exact s9 _ _ h.2.2
            · rw [upd_ne nlD, hl, List.map_map]
              rfl
        · rintro H7 ⟨s7, ls, zss, hD7, ez, hP7⟩
          rw [List.length_map, List.take_length] at ez
          have nDF : D ≠ F := (ne_of_none hF5 hD).symm
          have hF7 := s7 _ _ hF5
          refine ⟨F, _, _, rfl, rfl, hF7, sz63 (by omega), ?_⟩
          have it : ItemAt K (off F H7) (.ref D) (obsK b.R b.M days k zs[i]) := by
            have e : obsK b.R b.M days k zs[i] = listText (zss.map fun ys => listText (ys.map reprText)) := by
              unfold obsK
              rw [ez, List.map_map]
              rfl
            rw [e]
            refine .iLists (by rw [off_ne nDF]; exact hD7) (Paired.mapP hP7 fun a ys h => ⟨h.1, by rw [off_ne h.2.1]; exact h.2.2⟩) fun ys hys z hz => ?_
            rw [ez] at hys
            obtain ⟨d, _, rfl⟩ := List.mem_map.mp hys
            obtain ⟨e, he, rfl⟩ := List.mem_map.mp hz
            exact .inr (chargeF_nm (fun e he => (S.ok.rk.2 e (by rw [← S.eR]; exact he)).1) _ _ _ _ e he)
          refine ⟨fun c o h => by rw [upd_ne (ne_of_none h fF)]; exact s7 _ _ (s5 _ _ h), by rw [upd_ne nqF]; exact s7 _ _ hq5, ?_, a5, some (.str zs[i]), a7, rfl⟩
          · rw [eT]
            exact FoundAt.app (Paired.mapP hP5 fun a c q => q.same (off_same s7)) it
      · rintro σ H5 ⟨s5, hq5, fa5, a5, a6, a7, rfl⟩
        rw [List.length_map, List.take_length] at fa5
        exact hR _ _ ⟨s5, fa5, a5, a6, a7, rfl⟩
    rintro σ H3 ⟨s3, fa3, a5, a6, a7, rfl⟩
    -- what is landed
    refine seq_cut (fun σ H4 => Same H H4 ∧ FoundAt K H4 F (obsAll b.R b.M b.L pl.names pl.lights days k) ∧ ∃ a5 a6 a7, σ = [some (.ref b.p), some (.ref pl.d), some (.ref dl), some (vK k), some (.ref F), a5, a6, a7]) (fun R hR => ?_) ?_
    · have S3 := S.same s3
      refine ⟨_, rfl, pl.d, _, rfl, S3.pa.gLights, pl.lL, rfl, ⟨_, SqL.of S3.pa.lg⟩, for_it (walk_list (xs := pl.lights.map V.str)) (fun i σ H5 => Same H H5 ∧ FoundAt K H5 F ((ob1 b.M days k pl.names ++ (pl.lights ++ [("" : Str)]).map (obsK b.R b.M days k)) ++ (pl.lights.take i).map (obsL b.L days k)) ∧ ∃ a5 a6 a7, σ = [some (.ref b.p), some (.ref pl.d), some (.ref dl), some (vK k), some (.ref F), a5, a6, a7])
        ⟨s3, by rw [List.take_zero, List.map_nil, List.append_nil]; exact fa3, a5, a6, a7, rfl⟩ (fun i σ H5 _ h => SqL.of (S.same h.1).pa.lg) ?_ ?_⟩
      · rintro i x σ H5 H6 hi ⟨s5, ⟨xs, hF5, hP5⟩, a5, a6, a7, rfl⟩ ⟨rfl, hx⟩
        rw [List.length_map] at hi
        rw [List.getElem?_map, List.getElem?_eq_getElem hi] at hx
        cases hx
        have S5 := S.same s5
        obtain ⟨dx, hbp⟩ := S5.B.ob
        have lx := Paired.length hP5
        rw [List.length_append, List.length_append, List.length_map, List.length_map, List.length_append, List.length_take] at lx
        have lx2 : xs.length ≤ 40 := by
          have e1 : [("" : Str)].length = 1 := rfl
          omega
        have eT : (ob1 b.M days k pl.names ++ (pl.lights ++ [("" : Str)]).map (obsK b.R b.M days k)) ++ (pl.lights.take (i + 1)).map (obsL b.L days k) = ((ob1 b.M days k pl.names ++ (pl.lights ++ [("" : Str)]).map (obsK b.R b.M days k)) ++ (pl.lights.take i).map (obsL b.L days k)) ++ [obsL b.L days k pl.lights[i]] := by
          generalize ob1 b.M days k pl.names ++ (pl.lights ++ [("" : Str)]).map (obsK b.R b.M days k) = pre
          rw [List.take_succ_eq_append_getElem hi, List.map_append, ← List.append_assoc]
          rfl
        refine ⟨_, rfl, .inl ⟨rfl, _, SqL.of hF5⟩, _, rfl, dl, rfl, ⟨_, SqL.of S5.dl⟩, fun D hD => lc_it (walk_list (xs := days.map V.int)) (fun j H7 => Same H6 H7 ∧ H7 D = some (.lst (((days.take j).map fun d => (landF (held V.int k pl.lights[i] b.L) d).sum).map V.int))) ⟨same_upd hD, upd_same⟩ (fun j H7 _ h => SqL.of (S5.same h.1).dl) ?_ ?_⟩
        · rintro j y H7 H8 hj ⟨s7, hD7⟩ ⟨rfl, hy⟩
          rw [List.length_map] at hj
          rw [List.getElem?_map, List.getElem?_eq_getElem hj] at hy
          cases hy
          have S7 := S5.same s7
          refine ⟨rfl, ?_⟩
          refine ⟨_, rfl, b.p, dx, _, rfl, s7 _ _ hbp, fB_landed _ _ _ _, _, rfl, _, rfl, _, rfl, b, pl.lights[i], days[j], k, rfl, S7.B, S7.lim.lL, S.ok.ln _ (List.getElem_mem hi), S.d0 _ (List.getElem_mem hj), hk, fun H9 s9 => ⟨_, s9 _ _ hD7, by rw [List.length_map, List.length_map, List.length_take]; exact sz63 (by omega), fun c o e => ?_, ?_⟩⟩
          · rw [upd_ne (ne_of_none e hD)]
            exact s9 _ _ (s7 _ _ e)
          · rw [upd_same, List.take_succ_eq_append_getElem hj, List.map_append, List.map_append]
            rfl
        · rintro H7 ⟨s7, hD7⟩
          rw [List.length_map, List.take_length] at hD7
          have nDF : D ≠ F := (ne_of_none hF5 hD).symm
          have hF7 := s7 _ _ hF5
          refine ⟨F, _, _, rfl, rfl, hF7, sz63 (by omega), ?_⟩
          have it : ItemAt K (off F H7) (.ref D) (obsL b.L days k pl.lights[i]) := by
            have e : obsL b.L days k pl.lights[i] = listText ((days.map fun d => (landF (held V.int k pl.lights[i] b.L) d).sum).map fun n => Str.ofString (toString n)) := by
              unfold obsL
              rw [List.map_map]
              rfl
            rw [e]
            refine .iInts (by rw [off_ne nDF]; exact hD7) fun z hz => ?_
            obtain ⟨d, _, rfl⟩ := List.mem_map.mp hz
            exact sum_sm S.val S.lim.lL k _ d
          refine ⟨fun c o h => by rw [upd_ne (ne_of_none h fF)]; exact s7 _ _ (s5 _ _ h), ?_, a5, some (.str pl.lights[i]), a7, rfl⟩
          rw [eT]
          exact FoundAt.app (Paired.mapP hP5 fun a c q => q.same (off_same s7)) it
      · rintro σ H5 ⟨s5, fa5, a5, a6, a7, rfl⟩
        rw [List.length_map, List.take_length] at fa5
        exact hR _ _ ⟨s5, fa5, a5, a6, a7, rfl⟩
    rintro σ H4 ⟨s4, ⟨xs, hF4, hP4⟩, a5, a6, a7, rfl⟩
    refine ⟨_, rfl, F, xs, _, rfl, hF4, Paired.mapP hP4 fun x t it => (ItemAt.rh U.repr it fun c hc => ?_).more off_le (Nat.le_refl _), ?_, fun H5 s5 => q _ (s4.trans s5)⟩
    · rw [hc]
      exact off_self
    · exact obs_len S.val S.lim (by rw [S.eR]; exact S.ok.rk) n4 l3 d2
end
end LT
namespace LT
open PySem PySem.Spec PyProof.Rows L2
structure UseG (P : Program) (w : World) (K : PySem.W.Frag) (mg : Str → Option Value) (base : Heap) (k : Nat) (x : Str) (ps : List Str) (sp : Sp) : Prop where
  ex : ∃ (f : Addr) (fd : FuncData), FnG P w K mg base k f fd ps sp ∧ mg x = some (.ref f) ∧ PySem.W.keepIn K (.ref f) = true ∧ Binds K fd ps []
theorem pe_useG {X : Cx} {k : Nat} {ps : List Str} {sp : Sp} {x : Str} {p pos : Pos} {e : Expr} {es : List Expr} {t : TA} (U : UseG X.prog X.w X.K X.mg X.base k x ps sp) (gd : X.A.guards = some []) (hr : Room k X.A) (hg : Gl X x) (ha : PA X (e :: es) t) (hdb : (x == ("__debug__" : Str)) = false := by decide)
    (he : starEach (e :: es) X.env = (false, eval e X.env) :: starEach es X.env := by rfl) (hpl : (backTo pos (starEach es X.env)).any (·.1) = false := by rfl) : PE X (.Call (.Name x p) (e :: es) [] pos) (tCall sp [] E0 t) := by
  obtain ⟨f, fd, F, hm, hk, hb⟩ := U.ex
  exact pe_callG F gd hr hg hm hk hb ha hdb he hpl
/-- what is kept: known days with what was seen -/
def KeptAt (H : Hp) (kl : Addr) (Good : Int → Str → Prop) (n : Nat) : Prop := ∃ xs : List V, H kl = some (.lst xs) ∧ xs.length ≤ n ∧ ∀ x ∈ xs, ∃ t k z, x = .ref t ∧ H t = some (.tup [.int k, .str z]) ∧ Good k z
theorem KeptAt.keep {H H' : Hp} {kl : Addr} {Good Good' : Int → Str → Prop} {n m : Nat} {B : Addr → Prop} (h : KeptAt H kl Good n) (k : Kp B H H') (h1 : ¬ B kl) (h2 : ∀ t x, H t = some (.tup x) → ¬ B t) (hm : n ≤ m) (hg : ∀ k z, Good k z → Good' k z) : KeptAt H' kl Good' m := by
  obtain ⟨xs, e, l, a⟩ := h
  refine ⟨xs, k _ _ e h1, Nat.le_trans l hm, fun x hx => ?_⟩
  obtain ⟨t, k', z, ex, ht, g⟩ := a x hx
  exact ⟨t, k', z, ex, k _ _ ht (h2 _ _ ht), hg _ _ g⟩
section
variable {P : Program} {w : World} {K : PySem.W.Frag} {mg : Str → Option Value} {base : Heap} {f : Addr} {fd : FuncData}
def GoodS (b : Bk) (pl : Pl) (days : List Int) (k : Int) (z : Str) : Prop := 0 ≤ k ∧ z = obsB b pl days (some k)
def spStays (K : PySem.W.Frag) : Sp := fun vs H Q _ => ∃ (b : Bk) (pl : Pl) (dl kl : Addr) (days : List Int), vs = [.ref b.p, .ref pl.d, .ref dl, .ref kl] ∧ Sees K H b pl dl days ∧ KeptAt H kl (GoodS b pl days) 60 ∧ ∀ H', Same H H' → Q (.bl true) H'
theorem scStays : FnScope ["_law_book", "_law_plan_here", "_law_days", "_law_kept", "_law_known", "_law_then"] ["_law_book", "_law_plan_here", "_law_days", "_law_kept"] (defScope sLStays) := ⟨rfl, rfl, rfl, by decide +kernel, rfl, by decide +kernel, by decide +kernel⟩
theorem okStays (F : FnP K "_law_stays" "_law_stays" sLStays [] f fd) (T : Tx K mg) (U : UseG P w K mg base 6 "_law_known_then" ["_law_book", "_law_plan_here", "_law_days", "_law_known"] (spKnown K)) : FnG P w K mg base 7 f fd ["_law_book", "_law_plan_here", "_law_days", "_law_kept"] (spStays K) := by
  refine okG F scStays (fun vs H Q E h => ?_) (fun cdv A outer s H vs Q gd hr h => ?_)
  · obtain ⟨b, pl, dl, kl, days, rfl, _⟩ := h; rfl
  · obtain ⟨b, pl, dl, kl, days, rfl, S, ⟨xs, hkl, lx, hall⟩, q⟩ := h
    refine ⟨_, PSs.nox (pss_one (ps_ret (pe_callB (cr_all rfl) (by rfl) T.all (by decide +kernel) (pa_cons (pe_lc (own := [("_law_known", 4), ("_law_then", 5)]) (g := gTup K 2 (gCons (gName 4) (gCons (gName 5) gNil))) (tt := tYes) rfl scStays.nd (pi_list (pv 3))
        (blkOk_by (N := ["_law_book", "_law_plan_here", "_law_days", "_law_kept", "_law_known", "_law_then"]) (sc := defScope sLStays) (by decide +kernel))
        (fun _ _ _ _ _ => pg_tup rfl (pgs_cons (pg_name (i := 4) scStays.nd rfl (Or.inl rfl)) (pgs_cons (pg_name (i := 5) scStays.nd rfl (Or.inl rfl)) pgs_nil))) (fun _ _ _ _ _ => pts_nil)
        (fun _ _ _ _ _ => pe_cmpR op_eq (pe_useG U gd hr (by rfl) (pa_cons (pv 0) (pa_cons (pv 1) (pa_cons (pv 2) (pa_cons (pv 4) pa_nil))))) (pv 5) (nomark _))) pa_nil)))), ?_⟩
    refine ⟨_, rfl, kl, rfl, ⟨_, SqL.of hkl⟩, fun D hD => lc_it (walk_list (xs := xs)) (fun i H2 => Same H H2 ∧ H2 D = some (.lst ((List.replicate i true).map V.bl))) ⟨same_upd hD, upd_same⟩ (fun _ _ _ h => SqL.of (h.1 _ _ hkl)) ?_ ?_⟩
    · rintro i x H2 H3 hi ⟨sm, hD2⟩ ⟨rfl, hx⟩
      obtain ⟨t, k, z, rfl, ht, k0, hz⟩ := hall x (List.mem_of_getElem? hx)
      refine ⟨t, _, rfl, SqT.of (sm _ _ ht), rfl, _, _, rfl, _, _, rfl, rfl, rfl, ?_⟩
      refine ⟨_, rfl, _, rfl, _, rfl, _, rfl, b, pl, dl, days, some k, rfl, S.same sm, k0, fun H4 s4 => ⟨_, rfl, rfl, _, s4 _ _ hD2, by rw [List.length_map, List.length_replicate]; exact sz63 (by omega), fun c o e => ?_, ?_⟩⟩
      · rw [upd_ne (ne_of_none e hD)]
        exact s4 _ _ (sm _ _ e)
      · rw [upd_same, hz, decide_eq_true rfl]
        simp [List.replicate_succ']
    · rintro H2 ⟨sm, hD2⟩
      refine ⟨D, List.replicate xs.length true, rfl, SqL.of hD2, ?_⟩
      have e : (List.replicate xs.length true).all id = true := by simp
      rw [e]
      exact q H2 sm
end
end LT
namespace LT
open PySem PySem.Spec PyProof.Rows L2
/-! ### a step of the law, as data -/
section
variable {α : Type}
theorem putDown_len (rows : List (Row α)) (e : Int) (o : Option α) : (putDown rows e o).length ≤ rows.length + 1 := by
  unfold putDown
  rw [List.length_append]
  have e1 : [(e, o)].length = 1 := rfl
  split
  · rw [List.length_dropLast]; omega
  · omega
theorem tellT_mem {key : Str × Int} {e : Int} {o : Option α} {n : Nat} : ∀ {m : Tb α}, (∀ x ∈ m, x.2.length ≤ n) → ∀ en ∈ tellT m key e o, (en.1 = key ∨ ∃ x ∈ m, x.1 = en.1) ∧ (∀ r ∈ en.2, r = (e, o) ∨ ∃ x ∈ m, r ∈ x.2 ∧ x.1 = en.1) ∧ en.2.length ≤ n + 1
  | [], _, en, h => by
    unfold tellT at h
    rw [List.mem_singleton.mp h]
    exact ⟨.inl rfl, fun r hr => .inl (List.mem_singleton.mp hr), by show 1 ≤ n + 1; omega⟩
  | (k', rows) :: m, hl, en, h => by
    have up : ∀ {Q : (Str × Int) × List (Row α) → Prop}, (∃ x ∈ m, Q x) → ∃ x ∈ (k', rows) :: m, Q x := fun ⟨x, hx, q⟩ => ⟨x, List.mem_cons_of_mem _ hx, q⟩
    have l0 : rows.length ≤ n := hl (k', rows) (List.mem_cons_self ..)
    unfold tellT at h
    split at h
    · rename_i hk
      rcases List.mem_cons.mp h with rfl | h
      · refine ⟨.inl hk, fun r hr => ?_, Nat.le_trans (putDown_len _ _ _) (by omega)⟩
        rcases mem_putDown hr with q | q
        · exact .inr ⟨_, List.mem_cons_self .., q, rfl⟩
        · exact .inl q
      · exact ⟨.inr ⟨en, List.mem_cons_of_mem _ h, rfl⟩, fun r hr => .inr ⟨en, List.mem_cons_of_mem _ h, hr, rfl⟩, by have := hl en (List.mem_cons_of_mem _ h); omega⟩
    · rcases List.mem_cons.mp h with rfl | h
      · exact ⟨.inr ⟨_, List.mem_cons_self .., rfl⟩, fun r hr => .inr ⟨_, List.mem_cons_self .., hr, rfl⟩, by show rows.length ≤ _; omega⟩
      · obtain ⟨h1, h2, h3⟩ := tellT_mem (fun x hx => hl x (List.mem_cons_of_mem _ hx)) en h
        exact ⟨h1.imp id up, fun r hr => (h2 r hr).imp id up, h3⟩
end
structure Lim (b : Bk) (n : Nat) : Prop where
  nd : (b.lsM ++ b.lsL).Nodup
  lM : b.M.length ≤ n
  lL : b.L.length ≤ n
  rM : ∀ en ∈ b.M, en.2.length ≤ n
  rL : ∀ en ∈ b.L, en.2.length ≤ n
theorem Lim.bk {b : Bk} {n : Nat} (l : Lim b n) (h : n ≤ 60) : BkLim b := ⟨l.nd, Nat.le_trans l.lM h, Nat.le_trans l.lL h, fun en he => Nat.le_trans (l.rM en he) h, fun en he => Nat.le_trans (l.rL en he) h⟩
theorem Lim.tell {b b' : Bk} {n : Nat} {e day : Int} {name : Str} (l : Lim b n) (t : TellOk b b' e name day) (nd : (b'.lsM ++ b'.lsL).Nodup) : Lim b' (n + 1) := by
  rcases t with ⟨o, eM, _, eL⟩ | ⟨x, eL, _, _, eM⟩
  · refine ⟨nd, ?_, ?_, ?_, ?_⟩
    · rw [eM]; exact Nat.le_trans (tellT_len _) (by have := l.lM; omega)
    · rw [eL]; have := l.lL; omega
    · rw [eM]; exact fun en he => (tellT_mem l.rM en he).2.2
    · rw [eL]; exact fun en he => Nat.le_trans (l.rL en he) (Nat.le_succ _)
  · refine ⟨nd, ?_, ?_, ?_, ?_⟩
    · rw [eM]; have := l.lM; omega
    · rw [eL]; exact Nat.le_trans (tellT_len _) (by have := l.lL; omega)
    · rw [eM]; exact fun en he => Nat.le_trans (l.rM en he) (Nat.le_succ _)
    · rw [eL]; exact fun en he => (tellT_mem l.rL en he).2.2
theorem BkVal.tell {b b' : Bk} {n : Nat} {e day : Int} {name : Str} (v : BkVal b) (l : Lim b n) (t : TellOk b b' e name day) (d0 : 0 ≤ day) (d1 : day < 2 * 10 ^ 54) : BkVal b' := by
  rcases t with ⟨o, eM, ho, eL⟩ | ⟨x, eL, x0, x1, eM⟩
  · refine ⟨by rw [eM]; exact tellT_nodup v.kM, ?_, by rw [eL]; exact v.vL⟩
    rw [eM]
    intro en he
    obtain ⟨h1, h2, _⟩ := tellT_mem l.rM en he
    have hd : 0 ≤ en.1.2 ∧ en.1.2 < 2 * 10 ^ 54 := by
      rcases h1 with h1 | ⟨y, hy, h1⟩
      · rw [h1]; exact ⟨d0, d1⟩
      · rw [← h1]; exact ⟨(v.dM y hy).1, (v.dM y hy).2.1⟩
    refine ⟨hd.1, hd.2, fun r hr z hz => ?_⟩
    rcases h2 r hr with q | ⟨y, hy, q, _⟩
    · rw [q] at hz
      exact ho z hz
    · exact (v.dM y hy).2.2 r q z hz
  · refine ⟨by rw [eM]; exact v.kM, by rw [eM]; exact v.dM, ?_⟩
    rw [eL]
    intro en he r hr y hy
    obtain ⟨_, h2, _⟩ := tellT_mem l.rL en he
    rcases h2 r hr with q | ⟨u, hu, q, _⟩
    · rw [q] at hy
      cases hy
      exact ⟨x0, x1⟩
    · exact v.vL u hu r q y hy
theorem Told.mono {α : Type} {K K' : Int} {m : Tb α} (t : Told K m) (h : K ≤ K') : Told K' m := fun e he r hr => Int.le_trans (t e he r hr) h
def ScAt (K : PySem.W.Frag) (H : Hp) (a : Addr) (ns : List Int) : Prop := (∃ o, H a = some (.frz o (.lst (ns.map V.int)))) ∨ ∃ (o : Obj) (its : Array Value) (n : Nat), K.lookup a = some o ∧ o.cls = .type "list" ∧ o.dict = none ∧ o.data = .seq its n ∧ its.size ≤ sizeLine ∧ Vals (ns.map V.int) its.toList
theorem ScAt.sq {K : PySem.W.Frag} {H : Hp} {a : Addr} {ns : List Int} (h : ScAt K H a ns) : SqL K H a (ns.map V.int) := h.elim (fun ⟨o, e⟩ => .inl (.inr ⟨o, e⟩)) .inr
theorem ScAt.of {K : PySem.W.Frag} {H : Hp} {a : Addr} {ns : List Int} (hO : Only H) (h : SqL K H a (ns.map V.int)) : ScAt K H a ns := by
  rcases h with (h | h) | h
  · rcases hO a with z | ⟨o, xs, z⟩
    · rw [z] at h; cases h
    · rw [z] at h; cases h
  · exact .inl h
  · exact .inr h
theorem ScAt.keep {K : PySem.W.Frag} {H H' : Hp} {a : Addr} {ns : List Int} {B : Addr → Prop} (h : ScAt K H a ns) (k : Kp B H H') (n : ∀ o u, H a = some (.frz o u) → ¬ B a) : ScAt K H' a ns := by
  rcases h with ⟨o, e⟩ | h
  · exact .inl ⟨o, k _ _ e (n _ _ e)⟩
  · exact .inr h
structure Wk (K : PySem.W.Frag) (H : Hp) (a : Addr) (ns : List Int) (p : Addr) (pl : Pl) (dl kl : Addr) (b : Bk) (days : List Int) (n : Nat) : Prop where
  sc : ScAt K H a ns
  pot : PotAt H p
  B : BookAt K H b
  lim : Lim b n
  val : BkVal b
  pa : PlanAt H pl
  ok : PlOk pl
  eR : b.R = pl.R
  hdl : H dl = some (.lst (days.map V.int))
  d2 : days.length ≤ 2
  d0 : ∀ d ∈ days, 0 ≤ d
  tl : tlOk b.tl pl.known
  tM : Told pl.known b.M
  tL : Told pl.known b.L
  kt : ∃ xs, H kl = some (.lst xs)
  psep : PlSep pl p
  s1 : ¬ dl = p
  s2 : ¬ kl = p ∧ ¬ kl = pl.lN ∧ ¬ kl = pl.lL ∧ ¬ kl = pl.lLast ∧ ¬ kl = dl
  s3 : ∀ l ∈ b.lsM ++ b.lsL, ¬ l = p ∧ ¬ l = pl.lN ∧ ¬ l = pl.lL ∧ ¬ l = pl.lLast ∧ ¬ l = dl ∧ ¬ l = kl
  s4 : ¬ b.dR = pl.d
section
variable {K : PySem.W.Frag} {H H' : Hp} {a p dl kl : Addr} {ns : List Int} {pl : Pl} {b : Bk} {days : List Int} {n : Nat}
theorem Wk.sees (w : Wk K H a ns p pl dl kl b days n) (h : n ≤ 60) : Sees K H b pl dl days := ⟨w.B, w.lim.bk h, w.val, w.pa, w.ok, w.eR, w.hdl, w.d2, w.d0⟩
theorem LastAt.lst {H : Hp} {l : Addr} {e : Option (Str × Str × Int)} (h : LastAt H l e) : ∃ xs, H l = some (.lst xs) := by
  cases e with
  | none => exact ⟨_, h⟩
  | some e =>
    obtain ⟨t, h, _⟩ := h
    exact ⟨_, h⟩
/-- a list was written -/
theorem Wk.lst (w : Wk K H a ns p pl dl kl b days n) {c : Addr} {xs : List V} (hc : H c = some (.lst xs)) (k : Kp (· = c) H H') (hp : PotAt H' p) (hk : ∃ xs, H' kl = some (.lst xs)) (h1 : ¬ pl.lN = c) (h2 : ¬ pl.lL = c) (h3 : ¬ pl.lLast = c) (h4 : ¬ dl = c) (h5 : ∀ l ∈ b.lsM ++ b.lsL, ¬ l = c) :
    Wk K H' a ns p pl dl kl b days n := by
  have kd : ∀ {d o}, H d = some o → (∀ ys, o ≠ .lst ys) → ¬ d = c := fun e ho z => by
    rw [z, hc] at e
    exact ho _ (Option.some.inj e).symm
  obtain ⟨dx, hbp⟩ := w.B.ob
  refine ⟨w.sc.keep k fun o u e => kd e (fun _ z => nomatch z), hp, ?_, w.lim, w.val, ?_, w.ok, w.eR, k _ _ w.hdl h4, w.d2, w.d0, w.tl, w.tM, w.tL, hk, w.psep, w.s1, w.s2, w.s3, w.s4⟩
  · exact w.B.keep k (kd hbp (fun _ z => nomatch z)) (kd w.B.rk (fun _ z => nomatch z)) (kd w.B.mv.dt (fun _ z => nomatch z)) (kd w.B.ld.dt (fun _ z => nomatch z)) (fun l hl => h5 l (List.mem_append.mpr (.inl hl))) (fun l hl => h5 l (List.mem_append.mpr (.inr hl))) fun t x e => kd e (fun _ z => nomatch z)
  · exact w.pa.keep k (kd w.pa.pd (fun _ z => nomatch z)) h1 h2 (kd w.pa.rk (fun _ z => nomatch z)) h3 fun t x e => kd e (fun _ z => nomatch z)
theorem Wk.take (w : Wk K H a ns p pl dl kl b days n) (k : Kp (· = p) H H') (hp : PotAt H' p) : Wk K H' a ns p pl dl kl b days n := by
  obtain ⟨x, y, e, _⟩ := w.pot
  obtain ⟨xs, hx⟩ := w.kt
  exact w.lst e k hp ⟨xs, k _ _ hx w.s2.1⟩ w.psep.1 w.psep.2.1 w.psep.2.2 w.s1 fun l hl => (w.s3 l hl).1
theorem Wk.same (w : Wk K H a ns p pl dl kl b days n) (k : Same H H') : Wk K H' a ns p pl dl kl b days n := w.take (Same.kp k) (w.pot.same k)
/-- the list of what is kept was written -/
theorem Wk.app (w : Wk K H a ns p pl dl kl b days n) {xs : List V} : Wk K (L2.upd H kl (.lst xs)) a ns p pl dl kl b days n := by
  obtain ⟨ys, hy⟩ := w.kt
  exact w.lst hy (kp_upd rfl) (w.pot.keep (B := (· = kl)) (kp_upd rfl) fun z => w.s2.1 z.symm) ⟨xs, upd_same⟩ (fun z => w.s2.2.1 z.symm) (fun z => w.s2.2.2.1 z.symm) (fun z => w.s2.2.2.2.1 z.symm) (fun z => w.s2.2.2.2.2 z.symm) fun l hl => (w.s3 l hl).2.2.2.2.2
theorem Wk.event {pl' : Pl} (w : Wk K H a ns p pl dl kl b days n) (e : Evd H p pl pl' H') : Wk K H' a ns p pl' dl kl b days n := by
  obtain ⟨x, y, ep, _⟩ := w.pot
  obtain ⟨xs, hk⟩ := w.kt
  obtain ⟨dx, hbp⟩ := w.B.ob
  have kd : ∀ {d o}, H d = some o → (∀ ys, o ≠ .lst ys) → (∀ ks, o ≠ .dK ks) → ¬ (d = p ∨ d = pl.d) := fun e h1 h2 z => by
    rcases z with z | z
    · rw [z, ep] at e
      exact h1 _ (Option.some.inj e).symm
    · rw [z, w.pa.pd] at e
      exact h2 _ (Option.some.inj e).symm
  have kl_ : ∀ {d ys}, H d = some (.lst ys) → ¬ d = p → ¬ (d = p ∨ d = pl.d) := fun e h z => by
    rcases z with z | z
    · exact h z
    · rw [z, w.pa.pd] at e; cases e
  have nn : ∀ {d o}, H d = some o → ¬ d = pl'.lLast := fun h => ne_of_none h e.new
  have lsn : ∀ l ∈ b.lsM ++ b.lsL, ¬ (l = p ∨ l = pl.d) := fun l hl => by
    obtain ⟨ys, hy⟩ := w.B.lsOk l hl
    exact kl_ hy (w.s3 l hl).1
  have dRn : ¬ (b.dR = p ∨ b.dR = pl.d) := by
    rintro (z | z)
    · exact ne_of w.B.rk ep (by intro z; cases z) z
    · exact w.s4 z
  refine ⟨w.sc.keep e.kp fun o u q => kd q (fun _ z => nomatch z) (fun _ z => nomatch z), e.pot, ?_, w.lim, w.val, e.at_, e.ok, by rw [e.R]; exact w.eR, e.kp _ _ w.hdl (kl_ w.hdl w.s1), w.d2, w.d0, ?_, w.tM.mono e.k1, w.tL.mono e.k1, ⟨xs, e.kp _ _ hk (kl_ hk w.s2.1)⟩, ⟨by rw [e.lN]; exact w.psep.1, by rw [e.lL]; exact w.psep.2.1, fun z => nn ep z.symm⟩, w.s1,
    ⟨w.s2.1, by rw [e.lN]; exact w.s2.2.1, by rw [e.lL]; exact w.s2.2.2.1, nn hk, w.s2.2.2.2.2⟩, fun l hl => ?_, by rw [e.d]; exact w.s4⟩
  · exact w.B.keep e.kp (kd hbp (fun _ z => nomatch z) (fun _ z => nomatch z)) dRn (kd w.B.mv.dt (fun _ z => nomatch z) (fun _ z => nomatch z)) (kd w.B.ld.dt (fun _ z => nomatch z) (fun _ z => nomatch z)) (fun l hl => lsn l (List.mem_append.mpr (.inl hl))) (fun l hl => lsn l (List.mem_append.mpr (.inr hl))) fun t x q => kd q (fun _ z => nomatch z) (fun _ z => nomatch z)
  · have h := w.tl
    unfold tlOk at h ⊢
    split
    · trivial
    · rename_i t ht
      rw [ht] at h
      exact Int.le_trans h e.k1
  · obtain ⟨q1, q2, q3, q4, q5, q6⟩ := w.s3 l hl
    obtain ⟨ys, hy⟩ := w.B.lsOk l hl
    exact ⟨q1, by rw [e.lN]; exact q2, by rw [e.lL]; exact q3, nn hy, q5, q6⟩
theorem Wk.tell {b' : Bk} {name : Str} {day : Int} (w : Wk K H a ns p pl dl kl b days n) (t : ToldTo K H b b' pl.known H') (o : TellOk b b' pl.known name day) (d0 : 0 ≤ day) (d1 : day < 2 * 10 ^ 54) : Wk K H' a ns p pl dl kl b' days (n + 1) := by
  obtain ⟨x, y, ep, _⟩ := w.pot
  obtain ⟨xs, hk⟩ := w.kt
  obtain ⟨dx, hbp⟩ := w.B.ob
  have ko : ∀ {c q}, H c = some q → (∀ C dx fs, q ≠ .ins C dx fs) → (∀ ks, q ≠ .dT ks) → (∀ ys, q ≠ .lst ys) → ¬ (c = b.p ∨ c = b.dM ∨ c = b.dL ∨ c ∈ b.lsM ++ b.lsL) := fun e h1 h2 h3 z => by
    rcases z with z | z | z | z
    · rw [z, hbp] at e; exact h1 _ _ _ (Option.some.inj e).symm
    · rw [z, w.B.mv.dt] at e; exact h2 _ (Option.some.inj e).symm
    · rw [z, w.B.ld.dt] at e; exact h2 _ (Option.some.inj e).symm
    · obtain ⟨ys, hy⟩ := w.B.lsOk _ z
      rw [hy] at e; exact h3 _ (Option.some.inj e).symm
  have kl_ : ∀ {c ys}, H c = some (.lst ys) → (∀ l ∈ b.lsM ++ b.lsL, ¬ l = c) → ¬ (c = b.p ∨ c = b.dM ∨ c = b.dL ∨ c ∈ b.lsM ++ b.lsL) := fun e h z => by
    rcases z with z | z | z | z
    · rw [z, hbp] at e; cases e
    · rw [z, w.B.mv.dt] at e; cases e
    · rw [z, w.B.ld.dt] at e; cases e
    · exact h _ z rfl
  have np := kl_ ep fun l hl => (w.s3 l hl).1
  have nN := kl_ w.pa.nm fun l hl => (w.s3 l hl).2.1
  have nL := kl_ w.pa.lg fun l hl => (w.s3 l hl).2.2.1
  obtain ⟨zs, hz⟩ := w.pa.la.lst
  have nLa := kl_ hz fun l hl => (w.s3 l hl).2.2.2.1
  have nd := kl_ w.hdl fun l hl => (w.s3 l hl).2.2.2.2.1
  have nk := kl_ hk fun l hl => (w.s3 l hl).2.2.2.2.2
  refine ⟨w.sc.keep t.kp fun o u q => ko q (fun _ _ _ z => nomatch z) (fun _ z => nomatch z) (fun _ z => nomatch z), w.pot.keep t.kp np, t.at_, w.lim.tell o t.nd, w.val.tell w.lim o d0 d1, ?_, w.ok, t.R.trans w.eR, t.kp _ _ w.hdl nd, w.d2, w.d0, ?_, ?_, ?_, ⟨xs, t.kp _ _ hk nk⟩, w.psep, w.s1, w.s2, fun l hl => ?_, by rw [t.dR]; exact w.s4⟩
  · exact w.pa.keep t.kp (ko w.pa.pd (fun _ _ _ z => nomatch z) (fun _ z => nomatch z) (fun _ z => nomatch z)) nN nL (ko w.pa.rk (fun _ _ _ z => nomatch z) (fun _ z => nomatch z) (fun _ z => nomatch z)) nLa fun t x q => ko q (fun _ _ _ z => nomatch z) (fun _ z => nomatch z) (fun _ z => nomatch z)
  · rw [t.tl]
    exact Int.le_refl _
  · rcases o with ⟨o, eM, _, _⟩ | ⟨_, _, _, _, eM⟩
    · rw [eM]; exact w.tM.tell (Int.le_refl _)
    · rw [eM]; exact w.tM
  · rcases o with ⟨o, _, _, eL⟩ | ⟨_, eL, _, _, _⟩
    · rw [eL]; exact w.tL
    · rw [eL]; exact w.tL.tell (Int.le_refl _)
  · rcases t.new l hl with q | q
    · exact w.s3 l q
    · have nn : ∀ {c o}, H c = some o → ¬ l = c := fun h z => by rw [z, h] at q; cases q
      exact ⟨nn ep, nn w.pa.nm, nn w.pa.lg, nn hz, nn w.hdl, nn hk⟩
theorem Wk.ntup (w : Wk K H a ns p pl dl kl b days n) {c : Addr} {x : List V} (h : H c = some (.tup x)) : ¬ (c = b.p ∨ c = b.dM ∨ c = b.dL ∨ c ∈ b.lsM ++ b.lsL) := by
  obtain ⟨dx, hbp⟩ := w.B.ob
  rintro (z | z | z | z)
  · rw [z, hbp] at h; cases h
  · rw [z, w.B.mv.dt] at h; cases h
  · rw [z, w.B.ld.dt] at h; cases h
  · obtain ⟨ys, hy⟩ := w.B.lsOk _ z
    rw [hy] at h; cases h
theorem Wk.nkl (w : Wk K H a ns p pl dl kl b days n) : ¬ (kl = b.p ∨ kl = b.dM ∨ kl = b.dL ∨ kl ∈ b.lsM ++ b.lsL) := by
  obtain ⟨dx, hbp⟩ := w.B.ob
  obtain ⟨xs, h⟩ := w.kt
  rintro (z | z | z | z)
  · rw [z, hbp] at h; cases h
  · rw [z, w.B.mv.dt] at h; cases h
  · rw [z, w.B.ld.dt] at h; cases h
  · exact (w.s3 _ z).2.2.2.2.2 rfl
end
end LT
namespace LT
open PySem PySem.Spec PyProof.Rows L2
def GoodK (b : Bk) (pl : Pl) (days : List Int) (T : Int) (k : Int) (z : Str) : Prop := 0 ≤ k ∧ k < T ∧ z = obsB b pl days (some k)
section
variable {P : Program} {w : World} {K : PySem.W.Frag} {mg : Str → Option Value} {base : Heap} {f : Addr} {fd : FuncData}
structure UL (P : Program) (w : World) (K : PySem.W.Frag) (mg : Str → Option Value) (base : Heap) : Prop where
  pot : Use P w K mg base 1 "_law_pot" ["_law_script", "_law_k"] [] (spPot K)
  take : Use P w K mg base 1 "_law_take" ["_law_pot_here", "_law_many"] [] spTake
  plan : Use P w K mg base 3 "_law_plan" ["_law_pot_here", "_law_most"] [] spPlan
  book : UseC P w K mg base 4 "Book" (cB K) ["self", "ranks"] [] (spBInit K)
  event : Use P w K mg base 4 "_law_event" ["_law_pot_here", "_law_plan_here"] [] spEvent
  between : Use P w K mg base 2 "_law_between" ["_law_pot_here", "_law_last", "_law_later"] [] spBetween
  tell : Use P w K mg base 4 "_law_tell" ["_law_book", "_law_event_here"] [] (spLTell K)
  known : UseG P w K mg base 6 "_law_known_then" ["_law_book", "_law_plan_here", "_law_days", "_law_known"] (spKnown K)
  stays : UseG P w K mg base 7 "_law_stays" ["_law_book", "_law_plan_here", "_law_days", "_law_kept"] (spStays K)
def spLaw (K : PySem.W.Frag) : Sp := fun vs H Q _ => ∃ (a : Addr) (ns : List Int), vs = [.ref a] ∧ ScAt K H a ns ∧ ∀ H', Q (.bl true) H'
theorem scLaw : FnScope ["_law_script", "_law_k", "_law_pot_here", "_law_plan_here", "_law_days", "_law_book", "_law_kept", "_law_step", "_law_last", "_law_event_here", "_law_known", "_law_now"] ["_law_script"] (defScope sLLaw) := ⟨rfl, rfl, rfl, by decide +kernel, rfl, by decide +kernel, by decide +kernel⟩
theorem okLaw (F : FnP K "law" "law" sLLaw [] f fd) (T : Tx K mg) (U : UL P w K mg base) : FnG P w K mg base 8 f fd ["_law_script"] (spLaw K) := by
  refine okG F scLaw (fun vs H Q E h => ?_) (fun cdv A outer s H vs Q gd hr h => ?_)
  · obtain ⟨a, ns, rfl, _⟩ := h; rfl
  · obtain ⟨a, ns, rfl, sc0, q⟩ := h
    have hr1 := hr.mono (show 1 ≤ 7 by decide)
    have hr6 := hr.mono (show 6 ≤ 7 by decide)
    have hr4 := hr.mono (show 4 ≤ 7 by decide)
    refine ⟨_, PSs.nox (pss_cons (ps_for PassesOwn.never rfl (pi_range1 (by rfl) T.range (pa_cons (pe_callB (call_max2 rfl) (by rfl) T.max (by decide +kernel) (pa_cons pe_int (pa_cons (pe_callB (call_min2 rfl) (by rfl) T.min (by decide +kernel) (pa_cons (pe_callB call_len_seq (by rfl) T.len PySem.boot_len (pa_cons (pv 0) pa_nil)) (pa_cons pe_int pa_nil))) pa_nil))) pa_nil)) (pg_name (i := 1) scLaw.nd rfl (Or.inl rfl))
      (pss_cons (ps_set (i := 2) scLaw.nd rfl (Or.inl rfl) (pe_use U.pot hr1 (by rfl) (pa_cons (pv 0) (pa_cons (pv 1) pa_nil))))
      (pss_cons (ps_set (i := 3) scLaw.nd rfl (Or.inl rfl) (pe_use U.plan (hr.mono (by decide)) (by rfl) (pa_cons (pv 2) (pa_cons pe_int pa_nil))))
      (pss_cons (ps_set (i := 4) scLaw.nd rfl (Or.inl rfl) (pe_lst (pa_cons (pe_add (pe_op op_mul (pe_dget (hu_of hr) (pv 3) pe_str (fun _ _ => rfl)) (pe_use U.take hr1 (by rfl) (pa_cons (pv 2) (pa_cons pe_int pa_nil)))) (pe_use U.take hr1 (by rfl) (pa_cons (pv 2) (pa_cons pe_int pa_nil))))
          (pa_cons (pe_add (pe_add (pe_dget (hu_of hr) (pv 3) pe_str (fun _ _ => rfl)) pe_int) (pe_use U.take hr1 (by rfl) (pa_cons (pv 2) (pa_cons pe_int pa_nil)))) pa_nil))))
      (pss_cons (ps_set (i := 5) scLaw.nd rfl (Or.inl rfl) (pe_useC U.book (hr.mono (by decide)) (by rfl) (pa_cons (pe_dget (hu_of hr) (pv 3) pe_str (fun _ _ => rfl)) pa_nil)))
      (pss_cons (ps_set (i := 6) scLaw.nd rfl (Or.inl rfl) (pe_lst pa_nil))
      (pss_cons (ps_for PassesOwn.never rfl (pi_range1 (by rfl) T.range (pa_cons (pe_add pe_int (pe_use U.take hr1 (by rfl) (pa_cons (pv 2) (pa_cons pe_int pa_nil)))) pa_nil)) (pg_name (i := 7) scLaw.nd rfl (Or.inl rfl))
        (pss_cons (ps_set (i := 8) scLaw.nd rfl (Or.inl rfl) (pe_dget (hu_of hr) (pv 3) pe_str (fun _ _ => rfl)))
        (pss_cons (ps_set (i := 9) scLaw.nd rfl (Or.inl rfl) (pe_use U.event hr4 (by rfl) (pa_cons (pv 2) (pa_cons (pv 3) pa_nil))))
        (pss_cons (ps_if (PW.pt (pw_and (pt_cmpR op_gt (pe_ix ix_tup (pv 9) pe_int (fun _ _ => rfl)) (pv 8) (nomark _)) (pw_and1 (pt_cmpR op_lt (pe_callB call_len_seq (by rfl) T.len PySem.boot_len (pa_cons (pv 6) pa_nil)) pe_int (nomark _)))))
            (pss_one (ps_for PassesOwn.never rfl (pi_list (pe_use U.between (hr.mono (by decide)) (by rfl) (pa_cons (pv 2) (pa_cons (pv 8) (pa_cons (pe_ix ix_tup (pv 9) pe_int (fun _ _ => rfl)) pa_nil))))) (pg_name (i := 10) scLaw.nd rfl (Or.inl rfl))
              (pss_one (ps_expr (pe_bm PySem.F.plainAttrs_list PySem.F.slot_list_append PySem.F.type_list_append mt_append (pv 6) (pa_cons (pe_tup (pa_cons (pv 10) (pa_cons (pe_useG U.known gd hr6 (by rfl) (pa_cons (pv 5) (pa_cons (pv 3) (pa_cons (pv 4) (pa_cons (pv 10) pa_nil))))) pa_nil))) pa_nil)))))) pss_nil)
        (pss_cons (ps_expr (pe_use U.tell hr4 (by rfl) (pa_cons (pv 5) (pa_cons (pv 9) pa_nil))))
        (pss_cons (ps_if (pt_not (pt_val (pe_useG U.stays gd hr (by rfl) (pa_cons (pv 5) (pa_cons (pv 3) (pa_cons (pv 4) (pa_cons (pe_slice sl_list (pv 6) (po_some (pe_un un_neg pe_int)) po_none) pa_nil))))))) (pss_one (ps_ret pe_bl)) pss_nil)
        (pss_cons (ps_set (i := 11) scLaw.nd rfl (Or.inl rfl) (pe_useG U.known gd hr6 (by rfl) (pa_cons (pv 5) (pa_cons (pv 3) (pa_cons (pv 4) (pa_cons pe_non pa_nil))))))
        (pss_cons (ps_if (pt_cmpR op_ne (pv 11) (pe_useG U.known gd hr6 (by rfl) (pa_cons (pv 5) (pa_cons (pv 3) (pa_cons (pv 4) (pa_cons (pe_ix ix_tup (pv 9) pe_int (fun _ _ => rfl)) pa_nil))))) (nomark _)) (pss_one (ps_ret pe_bl)) pss_nil)
        (pss_one (ps_if (pt_cmpR op_ne (pv 11) (pe_useG U.known gd hr6 (by rfl) (pa_cons (pv 5) (pa_cons (pv 3) (pa_cons (pv 4) (pa_cons (pe_add (pe_add (pe_ix ix_tup (pv 9) pe_int (fun _ _ => rfl)) pe_int) (pe_use U.take hr1 (by rfl) (pa_cons (pv 2) (pa_cons pe_int pa_nil)))) pa_nil))))) (nomark _)) (pss_one (ps_ret pe_bl)) pss_nil))))))))))
      (pss_one (ps_if (pt_not (pt_val (pe_useG U.stays gd hr (by rfl) (pa_cons (pv 5) (pa_cons (pv 3) (pa_cons (pv 4) (pa_cons (pv 6) pa_nil))))))) (pss_one (ps_ret pe_bl)) pss_nil)))))))))
      (pss_one (ps_ret pe_bl))), ?_⟩
    refine seq_cut (fun _ _ => True) (fun R hR => ?_) (fun σ H' _ => q H')
    refine ⟨_, rfl, a, _, rfl, .inl sc0.sq, _, _, rfl, _, _, rfl, _, rfl, ?_, ?_, for_it walk_range (fun i σ H1 => ScAt K H1 a ns ∧ ∃ a1 a2 a3 a4 a5 a6 a7 a8 a9 a10 a11, σ = [some (.ref a), a1, a2, a3, a4, a5, a6, a7, a8, a9, a10, a11]) ⟨sc0, none, none, none, none, none, none, none, none, none, none, none, rfl⟩ (fun _ _ _ _ _ => trivial) ?_ (fun σ H1 _ => hR _ _ trivial)⟩
    · split <;> (try split) <;> omega
    · split <;> (try split) <;> omega
    rintro i x σ H1 H2 hi ⟨sc1, a1, a2, a3, a4, a5, a6, a7, a8, a9, a10, a11, rfl⟩ ⟨rfl, rfl⟩
    have hi2 : i < 2 := by
      refine Nat.lt_of_lt_of_le hi ?_
      split <;> (try split) <;> omega
    -- pot
    refine seq_cut (fun σ H2 => ScAt K H2 a ns ∧ ∃ p, PotAt H2 p ∧ σ = [some (.ref a), some (.int (0 + (i : Nat))), some (.ref p), a3, a4, a5, a6, a7, a8, a9, a10, a11]) (fun R hR => ?_) ?_
    · exact ⟨_, rfl, _, rfl, a, ns, i, by show [V.ref a, V.int (0 + (i : Int))] = _; rw [Int.zero_add], sc1.sq, by omega, fun H2 p s2 fp hp => hR _ _ ⟨sc1.keep (B := fun _ => False) (Same.kp s2) (fun _ _ _ z => z), p, hp, rfl⟩⟩
    rintro σ H2 ⟨sc2, p, hp2, rfl⟩
    have scp : ∀ {H H'}, ScAt K H a ns → PotAt H p → Kp (· = p) H H' → ScAt K H' a ns := fun sc hp k => sc.keep k fun o u e z => by
      obtain ⟨x, y, ep, _⟩ := hp
      rw [z, ep] at e
      cases e
    -- plan
    refine seq_cut (fun σ H3 => ScAt K H3 a ns ∧ PotAt H3 p ∧ ∃ pl, PlanAt H3 pl ∧ PlOk pl ∧ PlSep pl p ∧ σ = [some (.ref a), some (.int (0 + (i : Nat))), some (.ref p), some (.ref pl.d), a4, a5, a6, a7, a8, a9, a10, a11]) (fun R hR => ?_) ?_
    · exact ⟨_, rfl, p, rfl, hp2, fun H3 pl k3 hp3 f1 f2 f3 f4 f5 pa ok => hR _ _ ⟨scp sc2 hp2 k3, hp3, pl, pa, ok, ⟨hp2.ne f2, hp2.ne f3, hp2.ne f5⟩, rfl⟩⟩
    rintro σ H3 ⟨sc3, hp3, pl, pa3, ok, sep, rfl⟩
    -- days
    refine seq_cut (fun σ H4 => ScAt K H4 a ns ∧ PotAt H4 p ∧ PlanAt H4 pl ∧ ∃ (dl : Addr) (days : List Int), H4 dl = some (.lst (days.map V.int)) ∧ days.length ≤ 2 ∧ (∀ d ∈ days, 0 ≤ d) ∧ ¬ dl = p ∧
      σ = [some (.ref a), some (.int (0 + (i : Nat))), some (.ref p), some (.ref pl.d), some (.ref dl), a5, a6, a7, a8, a9, a10, a11]) (fun R hR => ?_) ?_
    · refine ⟨_, rfl, pl.d, _, rfl, pa3.gFar, _, rfl, p, 2, rfl, hp3, by decide, by decide, fun H4 d k4 hp4 d0 d2 => ⟨pl.far, d, rfl, rfl, .inr ⟨by omega, by omega⟩, _, rfl, p, 12, rfl, hp4, by decide, by decide, fun H5 e k5 hp5 e0 e12 => ⟨_, _, rfl, rfl, ?_⟩⟩⟩
      have pa5 := (pa3.pot hp3 sep k4).pot hp4 sep k5
      refine ⟨_, rfl, pl.d, _, rfl, pa5.gFar, pl.far, 12, rfl, rfl, _, rfl, p, 14, rfl, hp5, by decide, by decide, fun H6 g k6 hp6 g0 g14 => ⟨_, _, rfl, rfl, Nat.le_of_lt (sz63 (by show 2 ≤ 64; decide)), fun dl hdl => ?_⟩⟩
      have f0 := ok.f0
      refine hR _ _ ⟨(scp (scp (scp sc3 hp3 k4) hp4 k5) hp5 k6).keep (B := fun _ => False) (Same.kp (same_upd hdl)) (fun _ _ _ z => z), hp6.new hdl, (pa5.pot hp5 sep k6).same (same_upd hdl), dl, [pl.far * d + e, pl.far + 12 + g], upd_same, Nat.le_refl _, fun y hy => ?_, hp6.ne hdl, rfl⟩
      rcases List.mem_cons.mp hy with rfl | hy
      · have : d = 0 ∨ d = 1 := by omega
        rcases this with rfl | rfl <;> omega
      · rw [List.mem_singleton.mp hy]
        omega
    rintro σ H4 ⟨sc4, hp4, pa4, dl, days, hdl, d2, d0, ndp, rfl⟩
    -- book
    refine seq_cut (fun σ H5 => ScAt K H5 a ns ∧ PotAt H5 p ∧ PlanAt H5 pl ∧ H5 dl = some (.lst (days.map V.int)) ∧ ∃ b : Bk, BookAt K H5 b ∧ b.R = pl.R ∧ b.M = [] ∧ b.L = [] ∧ b.tl = none ∧ b.lsM = [] ∧ b.lsL = [] ∧ ¬ b.dR = pl.d ∧
      σ = [some (.ref a), some (.int (0 + (i : Nat))), some (.ref p), some (.ref pl.d), some (.ref dl), some (.ref b.p), a6, a7, a8, a9, a10, a11]) (fun R hR => ?_) ?_
    · refine ⟨_, rfl, pl.d, _, rfl, pa4.gRanks, fun x dx hx hdx nx => ?_⟩
      have s5 : Same H4 (L2.upd (L2.upd H4 dx (.own x)) x (.ins (cB K) dx [])) := fun c o e => by
        rw [upd_ne (ne_of_none e hx), upd_ne (ne_of_none e hdx)]
        exact e
      have ex : (L2.upd (L2.upd H4 dx (.own x)) x (.ins (cB K) dx [])) x = some (.ins (cB K) dx []) := upd_same
      refine ⟨x, pl.dR, dx, pl.R, rfl, ex, s5 _ _ pa4.rk, ok.rk, fun b H6 e1 e2 e3 e4 e5 e6 e7 fdR _ _ k6 B6 => ⟨rfl, ?_⟩⟩
      have s6 : Same H4 H6 := fun c o e => k6 _ _ (s5 _ _ e) (ne_of_none e hx)
      refine hR _ _ ⟨sc4.keep (B := fun _ => False) (Same.kp s6) (fun _ _ _ z => z), hp4.same s6, pa4.same s6, s6 _ _ hdl, b, B6, e2, e3, e4, e5, e6, e7, fun z => ?_, by rw [e1]; rfl⟩
      rw [z, s5 _ _ pa4.pd] at fdR
      cases fdR
    rintro σ H5 ⟨sc5, hp5, pa5, hdl5, b0, B5, eR, eM, eL, et, eM2, eL2, nR, rfl⟩
    -- what is kept
    refine seq_cut (fun σ H6 => ∃ kl : Addr, Wk K H6 a ns p pl dl kl b0 days 0 ∧ KeptAt H6 kl (GoodK b0 pl days pl.known) 0 ∧ σ = [some (.ref a), some (.int (0 + (i : Nat))), some (.ref p), some (.ref pl.d), some (.ref dl), some (.ref b0.p), some (.ref kl), a7, a8, a9, a10, a11]) (fun R hR => ?_) ?_
    · refine ⟨by decide, fun kl hkl => ?_⟩
      have s6 : Same H5 (L2.upd H5 kl (.lst [])) := same_upd hkl
      have nn : ∀ {c o}, H5 c = some o → ¬ kl = c := fun e z => ne_of_none e hkl z.symm
      obtain ⟨zs, hz⟩ := pa5.la.lst
      have hp5' := hp5
      obtain ⟨x, y, ep, _⟩ := hp5'
      refine hR _ _ ⟨kl, ⟨sc5.keep (B := fun _ => False) (Same.kp s6) (fun _ _ _ z => z), hp5.same s6, B5.same s6, ⟨by rw [eM2, eL2]; exact List.nodup_nil, by rw [eM]; exact Nat.le_refl _, by rw [eL]; exact Nat.le_refl _, by rw [eM]; exact (fun en h => nomatch h), by rw [eL]; exact (fun en h => nomatch h)⟩,
        ⟨by rw [eM]; exact List.nodup_nil, by rw [eM]; exact (fun en h => nomatch h), by rw [eL]; exact (fun en h => nomatch h)⟩, pa5.same s6, ok, eR, s6 _ _ hdl5, d2, d0, by rw [et]; trivial, by rw [eM]; exact (fun en h => nomatch h), by rw [eL]; exact (fun en h => nomatch h), ⟨[], upd_same⟩, sep, ndp,
        ⟨nn ep, nn pa5.nm, nn pa5.lg, nn hz, nn hdl5⟩, by rw [eM2, eL2]; exact (fun l h => nomatch h), nR⟩, ⟨[], upd_same, Nat.le_refl _, (fun x h => nomatch h)⟩, rfl⟩
    rintro σ H6 ⟨kl, W6, kt6, rfl⟩
    -- the steps
    refine seq_cut (fun σ H7 => ∃ (pl7 : Pl) (b : Bk) (m : Nat) (b7 b8 b9 b10 b11 : Option V), m ≤ 14 ∧ Wk K H7 a ns p pl7 dl kl b days m ∧ KeptAt H7 kl (GoodK b pl7 days pl7.known) (3 * m) ∧ σ = [some (.ref a), some (.int (0 + (i : Nat))), some (.ref p), some (.ref pl7.d), some (.ref dl), some (.ref b.p), some (.ref kl), b7, b8, b9, b10, b11]) (fun R hR => ?_) ?_
    · refine ⟨_, rfl, p, 13, rfl, W6.pot, by decide, by decide, fun H7 d k7 hp7 d0 d13 => ⟨2, d, rfl, rfl, 2 + d, rfl, by omega, by omega, for_it walk_range (fun j σ H8 => ∃ (pl8 : Pl) (b : Bk) (b7 b8 b9 b10 b11 : Option V), Wk K H8 a ns p pl8 dl kl b days j ∧ KeptAt H8 kl (GoodK b pl8 days pl8.known) (3 * j) ∧
        σ = [some (.ref a), some (.int (0 + (i : Nat))), some (.ref p), some (.ref pl8.d), some (.ref dl), some (.ref b.p), some (.ref kl), b7, b8, b9, b10, b11]) ?_ (fun _ _ _ _ _ => trivial) ?_ ?_⟩⟩
      · obtain ⟨x, y, ep, _⟩ := W6.pot
        exact ⟨pl, b0, a7, a8, a9, a10, a11, W6.take k7 hp7, kt6.keep k7 W6.s2.1 (fun t z e => ne_of e ep (by intro z; cases z)) (Nat.le_refl _) (fun _ _ h => h), rfl⟩
      · rintro j x σ H8 H9 hj ⟨pl8, b, b7, b8, b9, b10, b11, W8, kt8, rfl⟩ ⟨rfl, rfl⟩
        have hj14 : j < 14 := by omega
        -- the last known day
        refine seq_cut (fun σ H10 => H10 = H9 ∧ σ = [some (.ref a), some (.int (0 + (i : Nat))), some (.ref p), some (.ref pl8.d), some (.ref dl), some (.ref b.p), some (.ref kl), some (.int (0 + (j : Nat))), some (.int pl8.known), b9, b10, b11]) (fun R hR => ?_) ?_
        · exact ⟨_, rfl, pl8.d, _, rfl, W8.pa.gKnown, hR _ _ ⟨rfl, rfl⟩⟩
        rintro σ H10 ⟨rfl, rfl⟩
        -- the event
        refine seq_cut (fun σ H11 => ∃ (pl9 : Pl) (t : Addr) (e : Str × Str × Int) (v : V), Wk K H11 a ns p pl9 dl kl b days j ∧ pl8.known ≤ pl9.known ∧ pl9.known ≤ pl8.known + 9 ∧ 0 ≤ pl8.known ∧ EvOk pl9.names e ∧ WorthOk e.1 v ∧ H11 t = some (.tup [.str e.1, .int pl9.known, .str e.2.1, .int e.2.2, v]) ∧ KeptAt H11 kl (GoodK b pl9 days pl8.known) (3 * j) ∧
          σ = [some (.ref a), some (.int (0 + (i : Nat))), some (.ref p), some (.ref pl9.d), some (.ref dl), some (.ref b.p), some (.ref kl), some (.int (0 + (j : Nat))), some (.int pl8.known), some (.ref t), b10, b11]) (fun R hR => ?_) ?_
        · refine ⟨_, rfl, _, rfl, p, pl8, rfl, W8.pot, W8.pa, W8.ok, W8.psep, fun H11 t pl9 e v ev hl hev hw ht => hR _ _ ⟨pl9, t, e, v, W8.event ev, ev.k1, ev.k9, W8.ok.k0, by rw [ev.names]; exact hev, hw, ht, ?_, by rw [ev.d]; rfl⟩⟩
          obtain ⟨x, y, ep, _⟩ := W8.pot
          obtain ⟨ys, hy⟩ := W8.kt
          refine kt8.keep ev.kp ?_ (fun t z e => ?_) (Nat.le_refl _) (fun k z g => ⟨g.1, g.2.1, ?_⟩)
          · rintro (z | z)
            · exact W8.s2.1 z
            · exact ne_of hy W8.pa.pd (by intro z; cases z) z
          · rintro (z | z)
            · exact ne_of e ep (by intro z; cases z) z
            · exact ne_of e W8.pa.pd (by intro z; cases z) z
          · rw [g.2.2]
            unfold obsB
            rw [ev.names, ev.lights]
        rintro σ H11 ⟨pl9, t, e, v, W9, hk1, hk9, k0, hev, hw, ht, kt9, rfl⟩
        have up : ∀ {H kl n}, KeptAt H kl (GoodK b pl9 days pl8.known) n → ∀ {m}, n ≤ m → KeptAt H kl (GoodK b pl9 days pl9.known) m := fun h _ hm =>
          h.keep (B := fun _ => False) (Same.kp (Same.refl _)) id (fun _ _ _ => id) hm fun k z g => ⟨g.1, Int.lt_of_lt_of_le g.2.1 hk1, g.2.2⟩
        -- what is seen now is kept
        refine seq_cut (fun σ H12 => Wk K H12 a ns p pl9 dl kl b days j ∧ H12 t = some (.tup [.str e.1, .int pl9.known, .str e.2.1, .int e.2.2, v]) ∧ KeptAt H12 kl (GoodK b pl9 days pl9.known) (3 * (j + 1)) ∧
          ∃ b10, σ = [some (.ref a), some (.int (0 + (i : Nat))), some (.ref p), some (.ref pl9.d), some (.ref dl), some (.ref b.p), some (.ref kl), some (.int (0 + (j : Nat))), some (.int pl8.known), some (.ref t), b10, b11]) (fun R hR => ?_) ?_
        · refine ⟨_, rfl, t, _, 1, .int pl9.known, rfl, rfl, SqT.of ht, atI_nat (j := 1) rfl, _, rfl, pl9.known, pl8.known, rfl, rfl, _, rfl, ?_⟩
          by_cases hlt : pl8.known < pl9.known
          · refine ifT hlt ?_
            have kt9' := kt9
            obtain ⟨xs, hxs, lx, hall⟩ := kt9'
            refine ⟨_, rfl, kl, _, rfl, .inl (SqL.of hxs), _, 9, rfl, rfl, _, rfl, ?_⟩
            by_cases h9 : (xs.length : Int) < 9
            · refine ifT h9 ?_
              refine ⟨_, rfl, _, rfl, _, rfl, t, _, 1, .int pl9.known, rfl, rfl, SqT.of ht, atI_nat (j := 1) rfl, p, pl8.known, pl9.known, rfl, W9.pot, hlt, hk9, fun H12 l d k12 hp12 fl d0 d1 hl => ?_⟩
              obtain ⟨x0, y0, ep, _⟩ := W9.pot
              have W12 := W9.take k12 hp12
              have nkl : kl ≠ l := ne_of_none hxs fl
              have ntp : ¬ t = p := ne_of ht ep (by intro z; cases z)
              refine ⟨l, rfl, ⟨_, SqL.of hl⟩, for_it (walk_list (xs := [pl8.known, pl9.known - 1, pl8.known + d].map V.int)) (fun r σ H13 => Wk K H13 a ns p pl9 dl kl b days j ∧ H13 l = some (.lst ([pl8.known, pl9.known - 1, pl8.known + d].map V.int)) ∧ H13 t = some (.tup [.str e.1, .int pl9.known, .str e.2.1, .int e.2.2, v]) ∧ KeptAt H13 kl (GoodK b pl9 days pl9.known) (3 * j + r) ∧
                ∃ b10, σ = [some (.ref a), some (.int (0 + (i : Nat))), some (.ref p), some (.ref pl9.d), some (.ref dl), some (.ref b.p), some (.ref kl), some (.int (0 + (j : Nat))), some (.int pl8.known), some (.ref t), b10, b11])
                ⟨W12, hl, k12 _ _ ht ntp, (up kt9 (Nat.le_refl _)).keep k12 W9.s2.1 (fun t z e => ne_of e ep (by intro z; cases z)) (Nat.le_refl _) (fun _ _ h => h), b10, rfl⟩ (fun _ _ _ _ h => SqL.of h.2.1) ?_ ?_⟩
              · rintro r y σ H13 H14 hr2 ⟨W13, hl13, ht13, ⟨xs, hxs, lx, hall⟩, b10, rfl⟩ ⟨rfl, hy⟩
                have hr3 : r < 3 := hr2
                obtain ⟨kk, rfl, kk0, kk1⟩ : ∃ kk : Int, y = .int kk ∧ 0 ≤ kk ∧ kk < pl9.known := by
                  have : r = 0 ∨ r = 1 ∨ r = 2 := by omega
                  rcases this with rfl | rfl | rfl
                  · cases hy; exact ⟨_, rfl, by omega, by omega⟩
                  · cases hy; exact ⟨_, rfl, by omega, by omega⟩
                  · cases hy; exact ⟨_, rfl, by omega, by omega⟩
                refine ⟨_, rfl, .inl ⟨rfl, _, SqL.of hxs⟩, _, rfl, _, rfl, _, rfl, _, rfl, _, rfl, b, pl9, dl, days, some kk, rfl, W13.sees (by omega), kk0, fun H15 s15 => ⟨Nat.le_of_lt (sz63 (by show 2 ≤ 64; decide)), fun t2 ht2 => ?_⟩⟩
                have s16 := Same.upd s15 ht2 (o := .tup [.int kk, .str (obsB b pl9 days (some kk))])
                have et2 : (L2.upd H15 t2 (.tup [.int kk, .str (obsB b pl9 days (some kk))])) t2 = some (.tup [.int kk, .str (obsB b pl9 days (some kk))]) := upd_same
                have hkl16 := s16 _ _ hxs
                have hl16 := s16 _ _ hl13
                have ht16 := s16 _ _ ht13
                have W16 := W13.same s16
                generalize L2.upd H15 t2 (.tup [.int kk, .str (obsB b pl9 days (some kk))]) = H16 at *
                refine ⟨kl, _, _, rfl, rfl, hkl16, sz63 (by omega), ?_⟩
                have ktup : ∀ {c x} {ys : List V}, H16 c = some (.tup x) → (L2.upd H16 kl (.lst ys)) c = some (.tup x) := fun h => by
                  rw [upd_ne (ne_of h hkl16 (by intro z; cases z))]
                  exact h
                refine ⟨W16.app, by rw [upd_ne nkl.symm]; exact hl16, ktup ht16, ⟨xs ++ [.ref t2], upd_same, by rw [List.length_append]; show _ + 1 ≤ _; omega, fun x hx => ?_⟩, some (.int kk), rfl⟩
                rcases List.mem_append.mp hx with hx | hx
                · obtain ⟨t', k', z', ex, ht', g⟩ := hall x hx
                  exact ⟨t', k', z', ex, ktup (s16 _ _ ht'), g⟩
                · exact ⟨t2, kk, _, List.mem_singleton.mp hx, ktup et2, kk0, kk1, rfl⟩
              · rintro σ H13 ⟨W13, hl13, ht13, kt13, b10, rfl⟩
                exact hR _ _ ⟨W13, ht13, kt13, b10, rfl⟩
            · exact ifF h9 (hR _ _ ⟨W9, ht, up kt9 (by omega), b10, rfl⟩)
          · exact ifF hlt (hR _ _ ⟨W9, ht, up kt9 (by omega), b10, rfl⟩)
        rintro σ H12 ⟨W12, ht12, kt12, b10, rfl⟩
        -- the event is told
        refine seq_cut (fun σ H13 => ∃ b' : Bk, Wk K H13 a ns p pl9 dl kl b' days (j + 1) ∧ H13 t = some (.tup [.str e.1, .int pl9.known, .str e.2.1, .int e.2.2, v]) ∧ KeptAt H13 kl (GoodK b' pl9 days pl9.known) (3 * (j + 1)) ∧
          σ = [some (.ref a), some (.int (0 + (i : Nat))), some (.ref p), some (.ref pl9.d), some (.ref dl), some (.ref b'.p), some (.ref kl), some (.int (0 + (j : Nat))), some (.int pl8.known), some (.ref t), b10, b11]) (fun R hR => ?_) ?_
        · refine ⟨_, rfl, _, rfl, b, t, e, pl9.known, v, pl9.names, rfl, ht12, W12.B, W12.lim.bk (by omega), by omega, W12.tl, hev, (fun z hz => by rw [W12.eR]; exact W12.ok.nr z hz), hw, fun b' H13 td to => hR _ _ ⟨b', W12.tell td to hev.2.1 hev.2.2, ?_, ?_, by rw [td.p]⟩⟩
          · exact td.kp _ _ ht12 (W12.ntup ht12)
          · refine kt12.keep td.kp W12.nkl (fun t x h => W12.ntup h) (Nat.le_refl _) fun k z g => ⟨g.1, g.2.1, ?_⟩
            rw [g.2.2]
            unfold obsB
            rw [td.R]
            exact (obs_tell (k := some k) to (decide_eq_false (by have := g.2.1; omega))).symm
        rintro σ H13 ⟨b', W13, ht13, kt13, rfl⟩
        have T13 : ∀ {H' : Hp}, Same H13 H' → Wk K H' a ns p pl9 dl kl b' days (j + 1) ∧ H' t = some (.tup [.str e.1, .int pl9.known, .str e.2.1, .int e.2.2, v]) ∧ KeptAt H' kl (GoodK b' pl9 days pl9.known) (3 * (j + 1)) := fun s =>
          ⟨W13.same s, s _ _ ht13, kt13.keep (B := fun _ => False) (Same.kp s) id (fun _ _ _ => id) (Nat.le_refl _) (fun _ _ h => h)⟩
        -- what was kept stays
        refine seq_cut (fun σ H14 => Same H13 H14 ∧ σ = [some (.ref a), some (.int (0 + (i : Nat))), some (.ref p), some (.ref pl9.d), some (.ref dl), some (.ref b'.p), some (.ref kl), some (.int (0 + (j : Nat))), some (.int pl8.known), some (.ref t), b10, b11]) (fun R hR => ?_) ?_
        · obtain ⟨xs, hxs, lx, hall⟩ := kt13
          refine ⟨_, rfl, _, rfl, _, rfl, _, rfl, 2, rfl, -2, rfl, kl, xs, rfl, SqL.of hxs, fun lq hq => ?_⟩
          have sq := same_upd hq (o := .lst (cutV xs (some (-2)) none))
          refine ⟨b', pl9, dl, lq, days, rfl, (W13.same sq).sees (by omega), ⟨_, upd_same, Nat.le_trans (cutV_length _ _ _) (by omega), fun x hx => ?_⟩, fun H14 s14 => ⟨true, rfl, iteF (hR _ _ ⟨sq.trans s14, rfl⟩)⟩⟩
          obtain ⟨t', k', z', ex, ht', g⟩ := hall x (List.mem_of_mem_drop (List.mem_of_mem_take hx))
          exact ⟨t', k', z', ex, sq _ _ ht', g.1, g.2.2⟩
        rintro σ H14 ⟨s14, rfl⟩
        -- now
        refine seq_cut (fun σ H15 => Same H13 H15 ∧ σ = [some (.ref a), some (.int (0 + (i : Nat))), some (.ref p), some (.ref pl9.d), some (.ref dl), some (.ref b'.p), some (.ref kl), some (.int (0 + (j : Nat))), some (.int pl8.known), some (.ref t), b10, some (.str (obsB b' pl9 days none))]) (fun R hR => ?_) ?_
        · exact ⟨_, rfl, _, rfl, _, rfl, b', pl9, dl, days, none, rfl, (W13.same s14).sees (by omega), trivial, fun H15 s15 => hR _ _ ⟨s14.trans s15, rfl⟩⟩
        rintro σ H15 ⟨s15, rfl⟩
        have all : ∀ k : Int, pl9.known ≤ k → obsB b' pl9 days (some k) = obsB b' pl9 days none := fun k hk => obs_all W13.tM W13.tL (decide_eq_true hk)
        refine seq_cut (fun σ H16 => Same H13 H16 ∧ σ = [some (.ref a), some (.int (0 + (i : Nat))), some (.ref p), some (.ref pl9.d), some (.ref dl), some (.ref b'.p), some (.ref kl), some (.int (0 + (j : Nat))), some (.int pl8.known), some (.ref t), b10, some (.str (obsB b' pl9 days none))]) (fun R hR => ?_) ?_
        · refine ⟨_, rfl, _, rfl, _, rfl, _, rfl, _, rfl, t, _, 1, .int pl9.known, rfl, rfl, SqT.of (s15 _ _ ht13), atI_nat (j := 1) rfl, b', pl9, dl, days, some pl9.known, rfl, (W13.same s15).sees (by omega), by show 0 ≤ pl9.known; omega, fun H16 s16 => ⟨rfl, _, rfl, ?_⟩⟩
          rw [all _ (Int.le_refl _), decide_eq_true rfl]
          exact iteF (hR _ _ ⟨s15.trans s16, rfl⟩)
        rintro σ H16 ⟨s16, rfl⟩
        refine ⟨_, rfl, _, rfl, _, rfl, _, rfl, _, rfl, t, _, 1, .int pl9.known, rfl, rfl, SqT.of (s16 _ _ ht13), atI_nat (j := 1) rfl, pl9.known, 1, rfl, rfl, _, rfl, p, 9, rfl, (W13.same s16).pot, by decide, by decide, fun H17 g k17 hp17 g0 g9 => ?_⟩
        have W17 := (W13.same s16).take k17 hp17
        obtain ⟨x0, y0, ep, _⟩ := (W13.same s16).pot
        have kt17 := (T13 s16).2.2.keep k17 W13.s2.1 (fun t z e => ne_of e ep (by intro z; cases z)) (Nat.le_refl _) (fun _ _ h => h)
        refine ⟨_, _, rfl, rfl, b', pl9, dl, days, some (pl9.known + 1 + g), rfl, W17.sees (by omega), by show 0 ≤ pl9.known + 1 + g; omega, fun H18 s18 => ⟨rfl, _, rfl, ?_⟩⟩
        rw [all _ (by omega), decide_eq_true rfl]
        exact iteF ⟨pl9, b', some (.int (0 + (j : Nat))), some (.int pl8.known), some (.ref t), b10, some (.str (obsB b' pl9 days none)), W17.same s18, kt17.keep (B := fun _ => False) (Same.kp s18) id (fun _ _ _ => id) (Nat.le_refl _) (fun _ _ h => h), rfl⟩
      · rintro σ H8 ⟨pl8, b, b7, b8, b9, b10, b11, W8, kt8, rfl⟩
        exact hR _ _ ⟨pl8, b, (2 + d).toNat, b7, b8, b9, b10, b11, by omega, W8, kt8, rfl⟩
    rintro σ H7 ⟨pl7, b, m, b7, b8, b9, b10, b11, m14, W7, ⟨xs, hxs, lx, hall⟩, rfl⟩
    refine ⟨_, rfl, _, rfl, _, rfl, _, rfl, b, pl7, dl, kl, days, rfl, W7.sees (by omega), ⟨xs, hxs, by omega, fun x hx => ?_⟩, fun H8 s8 => ⟨true, rfl, ?_⟩⟩
    · obtain ⟨t, k, z, ex, ht, hg⟩ := hall x hx
      exact ⟨t, k, z, ex, ht, hg.1, hg.2.2⟩
    · exact iteF ⟨(W7.same s8).sc, some (.int (0 + (i : Nat))), some (.ref p), some (.ref pl7.d), some (.ref dl), some (.ref b.p), some (.ref kl), b7, b8, b9, b10, b11, rfl⟩
end
end LT
/-! All promises from the head's facts; the law. -/
namespace LT
open PySem PySem.Spec PyProof.Rows L2
section
variable {P : Program} {w : World} {K : PySem.W.Frag} {mg : Str → Option Value} {base : Heap} {f : Addr} {fd : FuncData} {x q : Str} {st : Stmt} {dvs : List V} {k : Nat} {ps : List Str} {sp : Sp}
theorem bindAll {v : V} {n : Nat} (F : FnP K x q st [v] f fd) (hn : n = ps.length) (h : ∀ (T : Addr) (kV doc pm : Value) (an : Option Addr) (cdv ct : Value) (us its : List Value), us.length = n → its.length = 1 →
    ∃ k, bindArgs (PySem.W.fnOf x q (defArgs st) (defBody st) (defScope st) (.ref T) kV doc pm an cdv ct) ⟨us, []⟩ = seqItems? (.ref T) >>= k ∧ k (some its.toArray) = pure (ps.zip (us ++ its.drop 1))) : Binds K fd ps [] := by
  obtain ⟨ds, r, b⟩ := FunD.binds1 (ps := ps) F n 1 (List.cons_ne_nil _ _) hn h
  cases r
  exact b
theorem mkUse (F : FnP K x q st dvs f fd) (ok : FnOk P w K mg base CX0 k f fd ps sp) (hm : mg x = some (.ref f)) (hb : Binds K fd ps []) : Use P w K mg base k x ps [] sp := ⟨⟨f, fd, [], ok, hm, F.kp, hb, .nil⟩⟩
theorem mkUseM {C : Addr} {m : Str} (ok : FnOk P w K mg base CX0 k f fd ps sp) (hm : Meth K C m f) (hb : Binds K fd ps []) : UseM P w K mg base k C m ps [] sp := ⟨⟨f, fd, [], ok, hm, hb, .nil⟩⟩
theorem mkUseC {C : Addr} {y : Str} (ok : FnOk P w K mg base CX0 k f fd ps sp) (M : Mk K C f) (hm : mg y = some (.ref C)) (hb : Binds K fd ps []) : UseC P w K mg base k y C ps [] sp := ⟨⟨f, fd, [], ok, M, hm, hb, .nil⟩⟩
theorem mkUseG (F : FnP K x q st dvs f fd) (ok : FnG P w K mg base k f fd ps sp) (hm : mg x = some (.ref f)) (hb : Binds K fd ps []) : UseG P w K mg base k x ps sp := ⟨⟨f, fd, ok, hm, F.kp, hb⟩⟩
end
theorem tx {K : PySem.W.Frag} {h : Heap} {mg : Str → Option Value} (X : K.In h) (G : h.Ns mainGlobals mg) (c : He.SaysD fa fn K) : Tx K mg where
  isinstance := He.free_ok X G (c.fact 28 (f := .free "isinstance") rfl)
  len := He.free_ok X G (c.fact 29 (f := .free "len") rfl)
  all := He.free_ok X G (c.fact 30 (f := .free "all") rfl)
  dict := He.free_ok X G (c.fact 31 (f := .free "dict") rfl)
  sorted := He.free_ok X G (c.fact 32 (f := .free "sorted") rfl)
  sum := He.free_ok X G (c.fact 33 (f := .free "sum") rfl)
  enumerate := He.free_ok X G (c.fact 34 (f := .free "enumerate") rfl)
  max := He.free_ok X G (c.fact 35 (f := .free "max") rfl)
  min := He.free_ok X G (c.fact 36 (f := .free "min") rfl)
  abs := He.free_ok X G (c.fact 37 (f := .free "abs") rfl)
  divmod := He.free_ok X G (c.fact 38 (f := .free "divmod") rfl)
  range := He.free_ok X G (c.fact 39 (f := .free "range") rfl)
  repr := He.free_ok X G (c.fact 40 (f := .free "repr") rfl)
  str := He.free_ok X G (c.fact 41 (f := .free "str") rfl)
  int := He.free_ok X G (c.fact 42 (f := .free "int") rfl)
  bool := He.free_ok X G (c.fact 43 (f := .free "bool") rfl)
  LETTERS := He.str_ok X G (c.fact 44 (f := .str "LETTERS" "abcdefghijklmnopqrstuvwxyz") rfl)
  ASHORE := He.str_ok X G (c.fact 45 (f := .str "ASHORE" "") rfl)
  MOST := He.int_ok X G (c.fact 46 (f := .int "MOST_LETTERS" 8) rfl)
  LOW := He.int_ok X G (c.fact 47 (f := .int "LOWEST_RANK" 9) rfl)
  KEEP := He.int_ok X G (c.fact 48 (f := .int "MOST_KEEPERS" 30) rfl)
  clB := He.cls_ok (c.fact 50 (f := .cls "Book") rfl)
  nRanks := He.noat_ok (c.fact 52 (f := .noat "Book" "own_ranks") rfl)
  nMoves := He.noat_ok (c.fact 53 (f := .noat "Book" "moves_told") rfl)
  nLands := He.noat_ok (c.fact 54 (f := .noat "Book" "landings_told") rfl)
  nLast := He.noat_ok (c.fact 55 (f := .noat "Book" "told_last") rfl)
  clS := He.cls_ok (c.fact 66 (f := .cls "Stretch") rfl)
  nBegin := He.noat_ok (c.fact 68 (f := .noat "Stretch" "begin") rfl)
  nEnd := He.noat_ok (c.fact 69 (f := .noat "Stretch" "end") rfl)
theorem facts {P : Program} {w : World} {K : PySem.W.Frag} {h : Heap} {mg : Str → Option Value} {f : Addr} (X : K.In h) (G : h.Ns mainGlobals mg) (hfa : mg ("law" : Str) = some (.ref f)) (c : He.SaysD fa fn K) :
    ∃ fd : FuncData, (∀ (s : Shared) (v : Value), BindsTo s fd ⟨[v], []⟩ [("_law_script", v)]) ∧ ∀ base : Heap, K.In base → base.Ns mainGlobals mg → FnG P w K mg base 8 f fd ["_law_script"] (spLaw K) := by
  have T := tx X G c
  obtain ⟨d_IsName, F_IsName⟩ := c.def_ 0 (d := dIsName) rfl
  replace F_IsName : FnP K "is_name" "is_name" sIsName [] (He.fAd K ("is_name", none)) d_IsName := F_IsName
  obtain ⟨d_IsWhole, F_IsWhole⟩ := c.def_ 1 (d := dIsWhole) rfl
  replace F_IsWhole : FnP K "is_whole" "is_whole" sIsWhole [.int 0] (He.fAd K ("is_whole", none)) d_IsWhole := F_IsWhole
  obtain ⟨d_IsRank, F_IsRank⟩ := c.def_ 2 (d := dIsRank) rfl
  replace F_IsRank : FnP K "is_rank" "is_rank" sIsRank [] (He.fAd K ("is_rank", none)) d_IsRank := F_IsRank
  obtain ⟨d_IsPlace, F_IsPlace⟩ := c.def_ 3 (d := dIsPlace) rfl
  replace F_IsPlace : FnP K "is_place" "is_place" sIsPlace [] (He.fAd K ("is_place", none)) d_IsPlace := F_IsPlace
  obtain ⟨d_WantRanks, F_WantRanks⟩ := c.def_ 4 (d := dWantRanks) rfl
  replace F_WantRanks : FnP K "want_ranks" "want_ranks" sWantRanks [] (He.fAd K ("want_ranks", none)) d_WantRanks := F_WantRanks
  obtain ⟨d_WantDay, F_WantDay⟩ := c.def_ 5 (d := dWantDay) rfl
  replace F_WantDay : FnP K "want_day" "want_day" sWantDay [] (He.fAd K ("want_day", none)) d_WantDay := F_WantDay
  obtain ⟨d_WantKnown, F_WantKnown⟩ := c.def_ 6 (d := dWantKnown) rfl
  replace F_WantKnown : FnP K "want_known" "want_known" sWantKnown [] (He.fAd K ("want_known", none)) d_WantKnown := F_WantKnown
  obtain ⟨d_PutDown, F_PutDown⟩ := c.def_ 7 (d := dPutDown) rfl
  replace F_PutDown : FnP K "put_down" "put_down" sPutDown [] (He.fAd K ("put_down", none)) d_PutDown := F_PutDown
  obtain ⟨d_LastTold, F_LastTold⟩ := c.def_ 8 (d := dLastTold) rfl
  replace F_LastTold : FnP K "last_told" "last_told" sLastTold [] (He.fAd K ("last_told", none)) d_LastTold := F_LastTold
  obtain ⟨d_BInit, F_BInit⟩ := c.def_ 9 (d := dBInit) rfl
  replace F_BInit : FnP K "__init__" "Book.__init__" sBInit [] (He.fAd K ("Book", some "__init__")) d_BInit := F_BInit
  obtain ⟨d_BRanks, F_BRanks⟩ := c.def_ 10 (d := dBRanks) rfl
  replace F_BRanks : FnP K "ranks" "Book.ranks" sBRanks [] (He.fAd K ("Book", some "ranks")) d_BRanks := F_BRanks
  obtain ⟨d_BWantKeeper, F_BWantKeeper⟩ := c.def_ 11 (d := dBWantKeeper) rfl
  replace F_BWantKeeper : FnP K "want_keeper" "Book.want_keeper" sBWantKeeper [] (He.fAd K ("Book", some "want_keeper")) d_BWantKeeper := F_BWantKeeper
  obtain ⟨d_BWantNotEarly, F_BWantNotEarly⟩ := c.def_ 12 (d := dBWantNotEarly) rfl
  replace F_BWantNotEarly : FnP K "want_not_early" "Book.want_not_early" sBWantNotEarly [] (He.fAd K ("Book", some "want_not_early")) d_BWantNotEarly := F_BWantNotEarly
  obtain ⟨d_BTell, F_BTell⟩ := c.def_ 13 (d := dBTell) rfl
  replace F_BTell : FnP K "tell" "Book.tell" sBTell [] (He.fAd K ("Book", some "tell")) d_BTell := F_BTell
  obtain ⟨d_BLand, F_BLand⟩ := c.def_ 14 (d := dBLand) rfl
  replace F_BLand : FnP K "land" "Book.land" sBLand [] (He.fAd K ("Book", some "land")) d_BLand := F_BLand
  obtain ⟨d_BHeldMoves, F_BHeldMoves⟩ := c.def_ 15 (d := dBHeldMoves) rfl
  replace F_BHeldMoves : FnP K "held_moves" "Book.held_moves" sBHeldMoves [] (He.fAd K ("Book", some "held_moves")) d_BHeldMoves := F_BHeldMoves
  obtain ⟨d_BHeldLandings, F_BHeldLandings⟩ := c.def_ 16 (d := dBHeldLandings) rfl
  replace F_BHeldLandings : FnP K "held_landings" "Book.held_landings" sBHeldLandings [] (He.fAd K ("Book", some "held_landings")) d_BHeldLandings := F_BHeldLandings
  obtain ⟨d_BWhere, F_BWhere⟩ := c.def_ 17 (d := dBWhere) rfl
  replace F_BWhere : FnP K "where" "Book.where" sBWhere [.non] (He.fAd K ("Book", some "where")) d_BWhere := F_BWhere
  obtain ⟨d_BLanded, F_BLanded⟩ := c.def_ 18 (d := dBLanded) rfl
  replace F_BLanded : FnP K "landed" "Book.landed" sBLanded [.non] (He.fAd K ("Book", some "landed")) d_BLanded := F_BLanded
  obtain ⟨d_SInit, F_SInit⟩ := c.def_ 19 (d := dSInit) rfl
  replace F_SInit : FnP K "__init__" "Stretch.__init__" sSInit [.non] (He.fAd K ("Stretch", some "__init__")) d_SInit := F_SInit
  obtain ⟨d_SRepr, F_SRepr⟩ := c.def_ 20 (d := dSRepr) rfl
  replace F_SRepr : FnP K "__repr__" "Stretch.__repr__" sSRepr [] (He.fAd K ("Stretch", some "__repr__")) d_SRepr := F_SRepr
  obtain ⟨d_RunsOf, F_RunsOf⟩ := c.def_ 21 (d := dRunsOf) rfl
  replace F_RunsOf : FnP K "runs_of" "runs_of" sRunsOf [] (He.fAd K ("runs_of", none)) d_RunsOf := F_RunsOf
  obtain ⟨d_Turns, F_Turns⟩ := c.def_ 22 (d := dTurns) rfl
  replace F_Turns : FnP K "turns" "turns" sTurns [.non] (He.fAd K ("turns", none)) d_Turns := F_Turns
  obtain ⟨d_TurnOn, F_TurnOn⟩ := c.def_ 23 (d := dTurnOn) rfl
  replace F_TurnOn : FnP K "turn_on" "turn_on" sTurnOn [] (He.fAd K ("turn_on", none)) d_TurnOn := F_TurnOn
  obtain ⟨d_WantPlace, F_WantPlace⟩ := c.def_ 24 (d := dWantPlace) rfl
  replace F_WantPlace : FnP K "want_place" "want_place" sWantPlace [] (He.fAd K ("want_place", none)) d_WantPlace := F_WantPlace
  obtain ⟨d_ChargeRows, F_ChargeRows⟩ := c.def_ 25 (d := dChargeRows) rfl
  replace F_ChargeRows : FnP K "charge_rows" "charge_rows" sChargeRows [] (He.fAd K ("charge_rows", none)) d_ChargeRows := F_ChargeRows
  obtain ⟨d_WantAsked, F_WantAsked⟩ := c.def_ 26 (d := dWantAsked) rfl
  replace F_WantAsked : FnP K "want_asked" "want_asked" sWantAsked [] (He.fAd K ("want_asked", none)) d_WantAsked := F_WantAsked
  obtain ⟨d_KeepersAt, F_KeepersAt⟩ := c.def_ 27 (d := dKeepersAt) rfl
  replace F_KeepersAt : FnP K "keepers_at" "keepers_at" sKeepersAt [.non] (He.fAd K ("keepers_at", none)) d_KeepersAt := F_KeepersAt
  obtain ⟨d_LPot, F_LPot⟩ := c.def_ 28 (d := dLPot) rfl
  replace F_LPot : FnP K "_law_pot" "_law_pot" sLPot [] (He.fAd K ("_law_pot", none)) d_LPot := F_LPot
  obtain ⟨d_LTake, F_LTake⟩ := c.def_ 29 (d := dLTake) rfl
  replace F_LTake : FnP K "_law_take" "_law_take" sLTake [] (He.fAd K ("_law_take", none)) d_LTake := F_LTake
  obtain ⟨d_LFar, F_LFar⟩ := c.def_ 30 (d := dLFar) rfl
  replace F_LFar : FnP K "_law_far" "_law_far" sLFar [] (He.fAd K ("_law_far", none)) d_LFar := F_LFar
  obtain ⟨d_LNames, F_LNames⟩ := c.def_ 31 (d := dLNames) rfl
  replace F_LNames : FnP K "_law_names" "_law_names" sLNames [] (He.fAd K ("_law_names", none)) d_LNames := F_LNames
  obtain ⟨d_LPlan, F_LPlan⟩ := c.def_ 32 (d := dLPlan) rfl
  replace F_LPlan : FnP K "_law_plan" "_law_plan" sLPlan [] (He.fAd K ("_law_plan", none)) d_LPlan := F_LPlan
  obtain ⟨d_LWorth, F_LWorth⟩ := c.def_ 33 (d := dLWorth) rfl
  replace F_LWorth : FnP K "_law_worth" "_law_worth" sLWorth [] (He.fAd K ("_law_worth", none)) d_LWorth := F_LWorth
  obtain ⟨d_LEvent, F_LEvent⟩ := c.def_ 34 (d := dLEvent) rfl
  replace F_LEvent : FnP K "_law_event" "_law_event" sLEvent [] (He.fAd K ("_law_event", none)) d_LEvent := F_LEvent
  obtain ⟨d_LTell, F_LTell⟩ := c.def_ 35 (d := dLTell) rfl
  replace F_LTell : FnP K "_law_tell" "_law_tell" sLTell [] (He.fAd K ("_law_tell", none)) d_LTell := F_LTell
  obtain ⟨d_LKnownThen, F_LKnownThen⟩ := c.def_ 36 (d := dLKnownThen) rfl
  replace F_LKnownThen : FnP K "_law_known_then" "_law_known_then" sLKnownThen [] (He.fAd K ("_law_known_then", none)) d_LKnownThen := F_LKnownThen
  obtain ⟨d_LBetween, F_LBetween⟩ := c.def_ 37 (d := dLBetween) rfl
  replace F_LBetween : FnP K "_law_between" "_law_between" sLBetween [] (He.fAd K ("_law_between", none)) d_LBetween := F_LBetween
  obtain ⟨d_LStays, F_LStays⟩ := c.def_ 38 (d := dLStays) rfl
  replace F_LStays : FnP K "_law_stays" "_law_stays" sLStays [] (He.fAd K ("_law_stays", none)) d_LStays := F_LStays
  obtain ⟨fd, F⟩ := c.def_ 39 (d := dLLaw) rfl
  have e := hfa.symm.trans (He.glo_ok X G (c.fact 27 (f := .glo "law") rfl))
  cases e
  have b := FunD.bindsA (ps := ["_law_script"]) F fun _ _ _ _ _ _ us hl => match us, hl with | [_], _ => rfl
  refine ⟨fd, fun s v => b s [v] rfl, fun base _ _ => ?_⟩
  have O_IsWhole : FnOk P w K mg base CX0 1 (He.fAd K ("is_whole", none)) d_IsWhole ["thing", "least"] spIsWhole := okIsWhole F_IsWhole T
  have g_IsWhole : mg "is_whole" = some (.ref (He.fAd K ("is_whole", none))) := He.glo_ok X G (c.fact 1 (f := .glo "is_whole") rfl)
  have U_IsWhole2 : Use P w K mg base 1 "is_whole" ["thing", "least"] [] spIsWhole := mkUse F_IsWhole O_IsWhole g_IsWhole (bindAll F_IsWhole (n := 2) rfl fun T kV doc pm an cdv ct us its h1 h2 => match us, its, h1, h2 with | [_, _], [_], _, _ => ⟨_, rfl, rfl⟩)
  have U_IsWhole1 : Use P w K mg base 1 "is_whole" ["thing", "least"] [.int 0] spIsWhole := by
    obtain ⟨ds, r, bb⟩ := FunD.binds1 (ps := ["thing", "least"]) F_IsWhole 1 0 (List.cons_ne_nil _ _) rfl fun T kV doc pm an cdv ct us its h1 h2 => match us, its, h1, h2 with | [_], [_], _, _ => ⟨_, rfl, rfl⟩
    exact ⟨⟨_, _, ds, O_IsWhole, g_IsWhole, F_IsWhole.kp, bb, r⟩⟩
  have U_IsName : Use P w K mg base 1 "is_name" ["thing"] [] spIsName := mkUse F_IsName (okIsName F_IsName T) (He.glo_ok X G (c.fact 0 (f := .glo "is_name") rfl)) (F_IsName.bindsN fun _ _ _ _ _ _ us hl => match us, hl with | [_], _ => rfl)
  have U_IsRank : Use P w K mg base 2 "is_rank" ["thing"] [] spIsRank := mkUse F_IsRank (okIsRank F_IsRank T U_IsWhole2) (He.glo_ok X G (c.fact 2 (f := .glo "is_rank") rfl)) (F_IsRank.bindsN fun _ _ _ _ _ _ us hl => match us, hl with | [_], _ => rfl)
  have U_IsPlace : Use P w K mg base 2 "is_place" ["thing"] [] spIsPlace := mkUse F_IsPlace (okIsPlace F_IsPlace T U_IsName) (He.glo_ok X G (c.fact 3 (f := .glo "is_place") rfl)) (F_IsPlace.bindsN fun _ _ _ _ _ _ us hl => match us, hl with | [_], _ => rfl)
  have U_WantDay : Use P w K mg base 2 "want_day" ["thing"] [] spWantDay := mkUse F_WantDay (okWantDay F_WantDay U_IsWhole1) (He.glo_ok X G (c.fact 5 (f := .glo "want_day") rfl)) (F_WantDay.bindsN fun _ _ _ _ _ _ us hl => match us, hl with | [_], _ => rfl)
  have U_WantKnown : Use P w K mg base 3 "want_known" ["thing"] [] spWantKnown := mkUse F_WantKnown (okWantKnown F_WantKnown U_WantDay) (He.glo_ok X G (c.fact 6 (f := .glo "want_known") rfl)) (F_WantKnown.bindsN fun _ _ _ _ _ _ us hl => match us, hl with | [_], _ => rfl)
  have U_WantRanks : Use P w K mg base 3 "want_ranks" ["thing"] [] spWantRanks := mkUse F_WantRanks (okWantRanks F_WantRanks T U_IsName U_IsRank) (He.glo_ok X G (c.fact 4 (f := .glo "want_ranks") rfl)) (F_WantRanks.bindsN fun _ _ _ _ _ _ us hl => match us, hl with | [_], _ => rfl)
  have U_PutDown : Use P w K mg base 1 "put_down" ["rows", "known", "worth"] [] spPutDown := mkUse F_PutDown (okPutDown F_PutDown) (He.glo_ok X G (c.fact 7 (f := .glo "put_down") rfl)) (F_PutDown.bindsN fun _ _ _ _ _ _ us hl => match us, hl with | [_, _, _], _ => rfl)
  have U_LastTold : Use P w K mg base 1 "last_told" ["rows", "known"] [] spLastTold := mkUse F_LastTold (okLastTold F_LastTold) (He.glo_ok X G (c.fact 8 (f := .glo "last_told") rfl)) (F_LastTold.bindsN fun _ _ _ _ _ _ us hl => match us, hl with | [_, _], _ => rfl)
  have U_BInit : UseC P w K mg base 4 "Book" (cB K) ["self", "ranks"] [] (spBInit K) := mkUseC (okBInit F_BInit T U_WantRanks) (He.mkr_ok (c.fact 51 (f := .mkr "Book") rfl)) (He.glo_ok X G (c.fact 49 (f := .glo "Book") rfl)) (F_BInit.bindsN fun _ _ _ _ _ _ us hl => match us, hl with | [_, _], _ => rfl)
  have U_BRanks : UseM P w K mg base 1 (cB K) "ranks" ["self"] [] (spBRanks K) := mkUseM (okBRanks F_BRanks T) (He.meth_ok (c.fact 56 (f := .meth "Book" "ranks") rfl)) (F_BRanks.bindsN fun _ _ _ _ _ _ us hl => match us, hl with | [_], _ => rfl)
  have U_BWantKeeper : UseM P w K mg base 1 (cB K) "want_keeper" ["self", "thing"] [] (spBWantKeeper K) := mkUseM (okBWantKeeper F_BWantKeeper T) (He.meth_ok (c.fact 57 (f := .meth "Book" "want_keeper") rfl)) (F_BWantKeeper.bindsN fun _ _ _ _ _ _ us hl => match us, hl with | [_, _], _ => rfl)
  have U_BWantNotEarly : UseM P w K mg base 1 (cB K) "want_not_early" ["self", "known"] [] (spBWantNotEarly K) := mkUseM (okBWantNotEarly F_BWantNotEarly T) (He.meth_ok (c.fact 58 (f := .meth "Book" "want_not_early") rfl)) (F_BWantNotEarly.bindsN fun _ _ _ _ _ _ us hl => match us, hl with | [_, _], _ => rfl)
  have U_BTell : UseM P w K mg base 3 (cB K) "tell" ["self", "known", "keeper", "day", "place"] [] (spTell K) := mkUseM (okTell F_BTell T U_WantDay U_BWantKeeper U_IsPlace U_BWantNotEarly U_PutDown) (He.meth_ok (c.fact 59 (f := .meth "Book" "tell") rfl)) (F_BTell.bindsN fun _ _ _ _ _ _ us hl => match us, hl with | [_, _, _, _, _], _ => rfl)
  have U_BLand : UseM P w K mg base 3 (cB K) "land" ["self", "known", "light", "day", "weight"] [] (spLand K) := mkUseM (okLand F_BLand T U_WantDay U_IsName U_IsWhole1 U_BWantNotEarly U_PutDown) (He.meth_ok (c.fact 60 (f := .meth "Book" "land") rfl)) (F_BLand.bindsN fun _ _ _ _ _ _ us hl => match us, hl with | [_, _, _, _, _], _ => rfl)
  have U_BHeldMoves : UseM P w K mg base 2 (cB K) "held_moves" ["self", "keeper", "known"] [] (spHeldMoves K) := mkUseM (okHeldMoves F_BHeldMoves T U_LastTold) (He.meth_ok (c.fact 61 (f := .meth "Book" "held_moves") rfl)) (F_BHeldMoves.bindsN fun _ _ _ _ _ _ us hl => match us, hl with | [_, _, _], _ => rfl)
  have U_BHeldLandings : UseM P w K mg base 2 (cB K) "held_landings" ["self", "light", "known"] [] (spHeldLandings K) := mkUseM (okHeldLandings F_BHeldLandings T U_LastTold) (He.meth_ok (c.fact 62 (f := .meth "Book" "held_landings") rfl)) (F_BHeldLandings.bindsN fun _ _ _ _ _ _ us hl => match us, hl with | [_, _, _], _ => rfl)
  have U_BWhere : UseM P w K mg base 4 (cB K) "where" ["self", "keeper", "day", "known"] [] (spWhere K) := mkUseM (okWhere F_BWhere T U_BWantKeeper U_WantDay U_WantKnown U_BHeldMoves) (He.meth_ok (c.fact 63 (f := .meth "Book" "where") rfl)) (bindAll F_BWhere (n := 4) rfl fun T kV doc pm an cdv ct us its h1 h2 => match us, its, h1, h2 with | [_, _, _, _], [_], _, _ => ⟨_, rfl, rfl⟩)
  have U_BLanded : UseM P w K mg base 4 (cB K) "landed" ["self", "light", "day", "known"] [] (spLanded K) := mkUseM (okLanded F_BLanded T U_IsName U_WantDay U_WantKnown U_BHeldLandings) (He.meth_ok (c.fact 64 (f := .meth "Book" "landed") rfl)) (bindAll F_BLanded (n := 4) rfl fun T kV doc pm an cdv ct us its h1 h2 => match us, its, h1, h2 with | [_, _, _, _], [_], _, _ => ⟨_, rfl, rfl⟩)
  have U_SInit : UseC P w K mg base 2 "Stretch" (cS K) ["self", "first", "last"] [] (spSInit K) := mkUseC (okSInit F_SInit T U_IsWhole1 U_IsWhole2) (He.mkr_ok (c.fact 67 (f := .mkr "Stretch") rfl)) (He.glo_ok X G (c.fact 65 (f := .glo "Stretch") rfl)) (bindAll F_SInit (n := 3) rfl fun T kV doc pm an cdv ct us its h1 h2 => match us, its, h1, h2 with | [_, _, _], [_], _, _ => ⟨_, rfl, rfl⟩)
  have U_SRepr : UseM P w K mg base 1 (cS K) "__repr__" ["self"] [] (spSRepr K) := mkUseM (okSRepr F_SRepr T) (He.meth_ok (c.fact 70 (f := .meth "Stretch" "__repr__") rfl)) (F_SRepr.bindsN fun _ _ _ _ _ _ us hl => match us, hl with | [_], _ => rfl)
  have U_RunsOf : Use P w K mg base 1 "runs_of" ["moves"] [] spRunsOf := mkUse F_RunsOf (okRunsOf F_RunsOf T) (He.glo_ok X G (c.fact 9 (f := .glo "runs_of") rfl)) (F_RunsOf.bindsN fun _ _ _ _ _ _ us hl => match us, hl with | [_], _ => rfl)
  have U_Turns : Use P w K mg base 4 "turns" ["book", "keeper", "known"] [] (spTurns K) := mkUse F_Turns (okTurns F_Turns T U_BWantKeeper U_WantKnown U_BHeldMoves U_RunsOf U_SInit) (He.glo_ok X G (c.fact 10 (f := .glo "turns") rfl)) (bindAll F_Turns (n := 3) rfl fun T kV doc pm an cdv ct us its h1 h2 => match us, its, h1, h2 with | [_, _, _], [_], _, _ => ⟨_, rfl, rfl⟩)
  have U_TurnOn : Use P w K mg base 3 "turn_on" ["book", "keeper", "day", "known"] [] (spTurnOn K) := mkUse F_TurnOn (okTurnOn F_TurnOn T U_BHeldMoves U_RunsOf) (He.glo_ok X G (c.fact 11 (f := .glo "turn_on") rfl)) (F_TurnOn.bindsN fun _ _ _ _ _ _ us hl => match us, hl with | [_, _, _, _], _ => rfl)
  have U_WantPlace : Use P w K mg base 3 "want_place" ["thing"] [] spWantPlace := mkUse F_WantPlace (okWantPlace F_WantPlace U_IsPlace) (He.glo_ok X G (c.fact 12 (f := .glo "want_place") rfl)) (F_WantPlace.bindsN fun _ _ _ _ _ _ us hl => match us, hl with | [_], _ => rfl)
  have U_ChargeRows : Use P w K mg base 4 "charge_rows" ["book", "place", "day", "known"] [] (spChargeRows K) := mkUse F_ChargeRows (okChargeRows F_ChargeRows T U_BRanks U_TurnOn) (He.glo_ok X G (c.fact 13 (f := .glo "charge_rows") rfl)) (F_ChargeRows.bindsN fun _ _ _ _ _ _ us hl => match us, hl with | [_, _, _, _], _ => rfl)
  have U_WantAsked : Use P w K mg base 4 "want_asked" ["place", "day", "known"] [] spWantAsked := mkUse F_WantAsked (okWantAsked F_WantAsked U_WantPlace U_WantDay U_WantKnown) (He.glo_ok X G (c.fact 14 (f := .glo "want_asked") rfl)) (F_WantAsked.bindsN fun _ _ _ _ _ _ us hl => match us, hl with | [_, _, _], _ => rfl)
  have U_KeepersAt : Use P w K mg base 5 "keepers_at" ["book", "place", "day", "known"] [] (spKeepersAt K) := mkUse F_KeepersAt (okKeepersAt F_KeepersAt T U_WantAsked U_ChargeRows) (He.glo_ok X G (c.fact 15 (f := .glo "keepers_at") rfl)) (bindAll F_KeepersAt (n := 4) rfl fun T kV doc pm an cdv ct us its h1 h2 => match us, its, h1, h2 with | [_, _, _, _], [_], _, _ => ⟨_, rfl, rfl⟩)
  have U_LPot : Use P w K mg base 1 "_law_pot" ["_law_script", "_law_k"] [] (spPot K) := mkUse F_LPot (okPot F_LPot T) (He.glo_ok X G (c.fact 16 (f := .glo "_law_pot") rfl)) (F_LPot.bindsN fun _ _ _ _ _ _ us hl => match us, hl with | [_, _], _ => rfl)
  have U_LTake : Use P w K mg base 1 "_law_take" ["_law_pot_here", "_law_many"] [] spTake := mkUse F_LTake (okTake F_LTake T) (He.glo_ok X G (c.fact 17 (f := .glo "_law_take") rfl)) (F_LTake.bindsN fun _ _ _ _ _ _ us hl => match us, hl with | [_, _], _ => rfl)
  have U_LFar : Use P w K mg base 2 "_law_far" ["_law_pot_here"] [] spFar := mkUse F_LFar (okFar F_LFar T U_LTake) (He.glo_ok X G (c.fact 18 (f := .glo "_law_far") rfl)) (F_LFar.bindsN fun _ _ _ _ _ _ us hl => match us, hl with | [_], _ => rfl)
  have U_LNames : Use P w K mg base 2 "_law_names" ["_law_pot_here", "_law_many"] [] spNames := mkUse F_LNames (okNames F_LNames T U_LTake) (He.glo_ok X G (c.fact 19 (f := .glo "_law_names") rfl)) (F_LNames.bindsN fun _ _ _ _ _ _ us hl => match us, hl with | [_, _], _ => rfl)
  have U_LPlan : Use P w K mg base 3 "_law_plan" ["_law_pot_here", "_law_most"] [] spPlan := mkUse F_LPlan (okPlan F_LPlan T U_LTake U_LNames U_LFar) (He.glo_ok X G (c.fact 20 (f := .glo "_law_plan") rfl)) (F_LPlan.bindsN fun _ _ _ _ _ _ us hl => match us, hl with | [_, _], _ => rfl)
  have U_LWorth : Use P w K mg base 3 "_law_worth" ["_law_pot_here", "_law_kind", "_law_light"] [] spWorth := mkUse F_LWorth (okWorth F_LWorth T U_LTake U_LFar) (He.glo_ok X G (c.fact 21 (f := .glo "_law_worth") rfl)) (F_LWorth.bindsN fun _ _ _ _ _ _ us hl => match us, hl with | [_, _, _], _ => rfl)
  have U_LEvent : Use P w K mg base 4 "_law_event" ["_law_pot_here", "_law_plan_here"] [] spEvent := mkUse F_LEvent (okEvent F_LEvent T U_LTake U_LWorth) (He.glo_ok X G (c.fact 22 (f := .glo "_law_event") rfl)) (F_LEvent.bindsN fun _ _ _ _ _ _ us hl => match us, hl with | [_, _], _ => rfl)
  have U_LBetween : Use P w K mg base 2 "_law_between" ["_law_pot_here", "_law_last", "_law_later"] [] spBetween := mkUse F_LBetween (okBetween F_LBetween U_LTake) (He.glo_ok X G (c.fact 25 (f := .glo "_law_between") rfl)) (F_LBetween.bindsN fun _ _ _ _ _ _ us hl => match us, hl with | [_, _, _], _ => rfl)
  have U_LTell : Use P w K mg base 4 "_law_tell" ["_law_book", "_law_event_here"] [] (spLTell K) := mkUse F_LTell (okLTell F_LTell T U_BTell U_BLand) (He.glo_ok X G (c.fact 23 (f := .glo "_law_tell") rfl)) (F_LTell.bindsN fun _ _ _ _ _ _ us hl => match us, hl with | [_, _], _ => rfl)
  have UBk : UB P w K mg base := ⟨U_Turns, U_BWhere, U_KeepersAt, U_BLanded, U_SRepr⟩
  have U_LKnownThen : UseG P w K mg base 6 "_law_known_then" ["_law_book", "_law_plan_here", "_law_days", "_law_known"] (spKnown K) := mkUseG F_LKnownThen (okKnown F_LKnownThen T UBk) (He.glo_ok X G (c.fact 24 (f := .glo "_law_known_then") rfl)) (F_LKnownThen.bindsN fun _ _ _ _ _ _ us hl => match us, hl with | [_, _, _, _], _ => rfl)
  have U_LStays : UseG P w K mg base 7 "_law_stays" ["_law_book", "_law_plan_here", "_law_days", "_law_kept"] (spStays K) := mkUseG F_LStays (okStays F_LStays T U_LKnownThen) (He.glo_ok X G (c.fact 26 (f := .glo "_law_stays") rfl)) (F_LStays.bindsN fun _ _ _ _ _ _ us hl => match us, hl with | [_, _, _, _], _ => rfl)
  exact okLaw F T ⟨U_LPot, U_LTake, U_LPlan, U_BInit, U_LEvent, U_LBetween, U_LTell, U_LKnownThen, U_LStays⟩
end LT
open PySem PySem.W PySem.Calls PyProof.Rows
theorem PySem.Challenge.cw_lightturns_k68_whole_known_never_changes_holds : PySem.Challenge.rw_lightturns_k68_whole_known_never_changes.Holds := by
  w_on; o_law
  refine HandSHeadRun.head_any (r := OpenLaw.row PySem.Challenge.rw_lightturns_k68_whole_known_never_changes) (q := view (OpenLaw.row PySem.Challenge.rw_lightturns_k68_whole_known_never_changes).prog [51]) (H := LTH.hk) (ob := LTH.ob) (M := 6000) (loose := LTH.lo) (d := HandSHeadRun.topDef (OpenLaw.row PySem.Challenge.rw_lightturns_k68_whole_known_never_changes).prog 51) (kwd := []) LTH.ob_eq
    (by kernel_rfl) (fun s => by kernel_rfl) LTH.run (by kernel_rfl) (by kernel_rfl) (by kernel_rfl) (by rfl) (by first | assumption | decide +kernel) (by decide +kernel) ⟨rfl, rfl, rfl, rfl, rfl, by decide +kernel⟩ ?hw ?hc
  case hw => w_witness2
  case hc =>
    refine LT.walk_ofG (l := PySem.Challenge.rw_lightturns_k68_whole_known_never_changes) (n := 63) (k := 8) (x := "_law_script") rfl (by decide) (by kernel_rfl) ⟨rfl, by decide, by decide⟩ ?F
    intro w mg fa h Y G hmg0
    obtain ⟨K, KX, c⟩ := Y
    have hmg : mg ("law" : PySem.Str) = some (.ref fa) := by
      have e : (HandSHeadRun.topDef (OpenLaw.row PySem.Challenge.rw_lightturns_k68_whole_known_never_changes).prog 51).name = ("law" : PySem.Str) := by kernel_rfl
      rw [← e]
      exact hmg0
    obtain ⟨fd, hb, hF⟩ := LT.facts (P := (PySem.Challenge.rw_lightturns_k68_whole_known_never_changes).prog) (w := w) KX G hmg c
    exact ⟨K, fd, LT.spLaw K, KX, hb, fun H a ns hl hO hS => ⟨a, ns, rfl, .of hO hS, fun _ => rfl⟩, hF⟩
