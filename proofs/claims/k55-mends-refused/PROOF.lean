import PyProof.Rows.All
import Wide.All
import OpenK.AllK
import Wide.FinOn
import HandS.HeadEnd
import HandS.Head4
import HandS.HeadHook4
import HandS.HeadWalk
import HandS.ExcField
import HandS.ExcInit
import HandS.EndBits
import HandS.Head2
import HandS.ForMost
import HandS.Exc
import HandS.ExcOwn
import HandS.TryOnly
import HandS.TryMany
import HandS.WordsExc
import HandS.Defaults
import HandS.Wide
import HandS.Deep
import HandS.TupAny
import HandS.TupMul
import HandS.IsInst
import HandS.SortInts
import HandS.More
import HandS.Flow
import HandS.Ends
import HandS.Iter
import HandS.Zip
import HandS.Comp
import HandS.NoneIn
import HandS.DictComp
import HandS.FStr
import HandS.SetFor
import HandS.Strs
import HandS.HeadHook2
import PySem.Challenge.RW_skidblame_k55_mends_refused
set_option Elab.async false
set_option linter.all false
set_option maxRecDepth 100000
set_option maxHeartbeats 2000000
namespace DM
open PySem PySem.Spec PyProof.Rows L2
abbrev Pd := PySem.W.Frag → Bool
def obsX (fb : List Pd) (fn : List He.DefD) (K : PySem.W.Frag) : He.AlD := ((fb.all fun p => p K) && fn.all fun d => d.ok K, fn.map fun d => He.fnW K d.at_)
def SaysX (fb : List Pd) (fn : List He.DefD) (K : PySem.W.Frag) : Prop := obsX fb fn K = He.valD fn
def asX (g : Addr → Option Obj) : Nat → List Addr
  | 0 => [mainGlobals, cStatics]
  | n + 1 => He.growD g (asX g n)
def obsXG (n : Nat) (fb : List Pd) (fn : List He.DefD) (g : Addr → Option Obj) : He.AlD := obsX fb fn (He.frG g (asX g n))
def hookX (n : Nat) (fb : List Pd) (fn : List He.DefD) : PySem.W.Hook where
  α := He.AlD
  obs := fun s => obsXG n fb fn s.heap.get?
  val := fun _ => He.valD fn
  says := fun _ h => ∃ K : PySem.W.Frag, K.In h ∧ SaysX fb fn K
  of := fun _ _ e => ⟨_, He.frG_in, e⟩
  keeps := fun _ _ _ ⟨K, hK, c⟩ kk => ⟨K, PySem.W.Frag.In.keeps hK kk, c⟩
theorem obsXG_eq {n : Nat} {fb : List Pd} {fn : List He.DefD} {g : Addr → Option Obj} {s : Shared} (h : ∀ a, g a = s.heap.get? a) : obsXG n fb fn g = (hookX n fb fn).obs s := by
  have e : g = s.heap.get? := funext h
  rw [e] <;> rfl
section
variable {fb : List Pd} {fn : List He.DefD} {K : PySem.W.Frag}
theorem SaysX.all (c : SaysX fb fn K) : (fb.all fun p => p K) = true := (He.ba (show ((fb.all fun p => p K) && fn.all fun d => d.ok K) = true from congrArg (fun z : He.AlD => z.1) c)).1
theorem SaysX.fact (c : SaysX fb fn K) (i : Nat) {p : Pd} (h : fb[i]? = some p := by rfl) : p K = true := List.all_eq_true.mp c.all p (List.mem_of_getElem? h)
theorem SaysX.def_ (c : SaysX fb fn K) (i : Nat) {d : He.DefD} (h : fn[i]? = some d := by rfl) : ∃ fd, FunD K d.name d.qual d.params d.body d.scope (d.dvs K) (d.kws K) (He.fAd K d.at_) fd := by
  have c2 := (He.ba (show ((fb.all fun p => p K) && fn.all fun d => d.ok K) = true from congrArg (fun z : He.AlD => z.1) c)).2
  have e : fn.map (fun d => He.fnW K d.at_) = fn.map He.DefD.val := congrArg (fun z : He.AlD => z.2) c
  have e2 : (fn.map fun d => He.fnW K d.at_)[i]? = (fn.map He.DefD.val)[i]? := by rw [e]
  rw [List.getElem?_map, List.getElem?_map, h] at e2
  exact He.DefD.funD (Option.some.inj e2) (List.all_eq_true.mp c2 d (List.mem_of_getElem? h))
end
def dfn (x : Str) (st : Stmt) : He.DefD := ⟨(x, none), x, x, defArgs st, defBody st, defScope st, [], []⟩
def dme (c m q : Str) (st : Stmt) : He.DefD := ⟨(c, some m), m, q, defArgs st, defBody st, defScope st, [], []⟩
def fOex (x : Str) : Pd := fun K => (match K.lookup (He.ga K x) with
  | some ⟨.type "type", od, .cls cd, sl⟩ => (match cd.mro, sl.toList with
    | .ref C' :: bm, [_, _, _, _, some (.builtin n), _] => C' == He.ga K x && (n == "ValueError.__new__" && (!cd.hasDel && (cd.hasDict && PySem.HandSPX.refsVE bm)))
    | _, _ => false)
  | _ => false) && (He.eqO (PySem.W.findIn K (.ref (He.ga K x)) "__setattr__") (some (some (.builtin "object.__setattr__"))) && (decide (PySem.W.subIn K (.ref (He.ga K x)) (.type "BaseException") = some true) && (decide (PySem.W.typeIn K (.ref (He.ga K x)) = some (.type "type")) && PySem.W.keepIn K (.ref (He.ga K x)))))
def fIni (x : Str) : Pd := fun K => He.eqO (PySem.W.nsIn K mainGlobals x) (some (some (.ref (He.ga K x)))) && (PySem.W.readsIn K (He.ga K x) (.type "type") && (He.eqO (PySem.W.specialIn K (.ref (He.ga K x)) "__getattribute__") (some (some (.builtin "type.__getattribute__"))) &&
  (match PySem.W.findCls K (.ref (He.ga K x)) (.type "type") "__init__" with
    | some (.val (.builtin n)) => decide (n = "ValueError.__init__")
    | _ => false)))
def fXf (x : Str) : Pd := fun K => xfB K (He.ga K x)
def fFnd (x m : Str) : Pd := fun K => He.eqO (PySem.W.findIn K (.ref (He.ga K x)) m) (some (some (.ref (He.fAd K (x, some m))))) && decide (PySem.W.typeIn K (.ref (He.fAd K (x, some m))) = some (.type "function"))
def fNone (x m : Str) : Pd := fun K => He.eqO (PySem.W.findIn K (.ref (He.ga K x)) m) (some none)
def fExm (tab : List ((Str × Str) × Bool)) : Pd := fun K => tab.all fun p => (He.Fa.glo p.1.1).ok K && ((He.Fa.glo p.1.2).ok K && (He.Fa.exm p.1.1 p.1.2 p.2).ok K)
def exmOf (tab : List ((Str × Str) × Bool)) (a b : Str) : Option Bool := tab.lookup (a, b)
end DM
set_option Elab.async false
set_option linter.all false
set_option maxRecDepth 100000
set_option maxHeartbeats 0
namespace K55
open PySem PySem.Spec PyProof.Rows L2 DM
abbrev PP : Program := PySem.Challenge.pw_skidblame_k55_mends_refused
def top (i : Nat) : Stmt := PP.main.body.getD i (.Pass ⟨0, 0, 0, 0⟩)
def clsBody : Stmt → List Stmt
  | .ClassDef _ _ _ b _ _ _ _ _ _ _ => b
  | _ => []
def mtop (i j : Nat) : Stmt := (clsBody (top i)).getD j (.Pass ⟨0, 0, 0, 0⟩)
def exmTab : List ((Str × Str) × Bool) := [(("NoChange", "Mismatch"), false), (("NoChange", "NoChange"), true), (("NoChange", "NoWeights"), false), (("NoChange", "TooMany"), false), (("NoProgram", "Mismatch"), false), (("NoProgram", "NoChange"), false), (("NoProgram", "NoWeights"), false), (("NoProgram", "TooMany"), false), (("NoWatcher", "Mismatch"), false), (("NoWatcher", "NoChange"), false), (("NoWatcher", "NoWeights"), false), (("NoWatcher", "TooMany"), false), (("NoWeights", "Mismatch"), false), (("NoWeights", "NoChange"), false), (("NoWeights", "NoWeights"), true), (("NoWeights", "TooMany"), false), (("TooMany", "Mismatch"), false), (("TooMany", "NoChange"), false), (("TooMany", "NoWeights"), false), (("TooMany", "TooMany"), true)]
abbrev exmT : Str → Str → Option Bool := exmOf exmTab
def fbs : List Pd := [
  (fun K => (He.Fa.int "BEGIN" (-1)).ok K),
  (fun K => (He.Fa.str "FIGURES" "0123456789").ok K),
  (fun K => (He.Fa.str "LETTERS" "abcdefghijklmnopqrstuvwxyz").ok K),
  (fun K => (He.Fa.int "MAX_NAME" 8).ok K),
  (fun K => (He.Fa.int "MAX_OFFERS" 6).ok K),
  (fun K => (He.Fa.int "MAX_PLACES" 8).ok K),
  (fun K => (He.Fa.int "MAX_STEPS" 30).ok K),
  (fun K => (He.Fa.int "MAX_WEIGHT" 1000000).ok K),
  (fun K => (He.Fa.free "abs").ok K),
  (fun K => (He.Fa.free "all").ok K),
  (fun K => (He.Fa.free "bool").ok K),
  (fun K => (He.Fa.glo "Source").ok K),
  (fun K => (He.Fa.cls "Source").ok K),
  (fun K => (He.Fa.free "enumerate").ok K),
  (fun K => (He.Fa.free "int").ok K),
  (fun K => (He.Fa.free "isinstance").ok K),
  (fun K => (He.Fa.free "len").ok K),
  (fun K => (He.Fa.free "list").ok K),
  (fun K => (He.Fa.free "min").ok K),
  (fun K => (He.Fa.noat "Source" "all").ok K),
  (fun K => (He.Fa.noat "Source" "program").ok K),
  (fun K => (He.Fa.noat "Source" "watcher").ok K),
  (fun K => (He.Fa.free "range").ok K),
  (fun K => (He.Fa.free "repr").ok K),
  (fun K => (He.Fa.free "set").ok K),
  (fun K => (He.Fa.free "sorted").ok K),
  (fun K => (He.Fa.free "str").ok K),
  (fun K => (He.Fa.free "tuple").ok K),
  (fun K => (He.Fa.free "zip").ok K),
  (fun K => (He.Fa.glo "Mismatch").ok K),
  (fun K => (He.Fa.glo "NoChange").ok K),
  (fun K => (He.Fa.glo "NoProgram").ok K),
  (fun K => (He.Fa.glo "NoWatcher").ok K),
  (fun K => (He.Fa.glo "NoWeights").ok K),
  (fun K => (He.Fa.glo "Source").ok K),
  (fun K => (He.Fa.glo "TooMany").ok K),
  (fun K => (He.Fa.exc "NoChange").ok K),
  (fun K => (He.Fa.glo "NoChange").ok K),
  (fun K => (He.Fa.exc "NoProgram").ok K),
  (fun K => (He.Fa.glo "NoProgram").ok K),
  (fun K => (He.Fa.exc "NoWatcher").ok K),
  (fun K => (He.Fa.glo "NoWatcher").ok K),
  (fun K => (He.Fa.exc "NoWeights").ok K),
  (fun K => (He.Fa.glo "NoWeights").ok K),
  (fExm exmTab),
  (fOex "TooMany"),
  (fFnd "TooMany" "__init__"),
  (fXf "TooMany"),
  (fNone "TooMany" "limit"),
  (fIni "BlameError"),
  (fun K => (He.Fa.glo "is_integer").ok K),
  (fun K => (He.Fa.glo "is_count").ok K),
  (fun K => (He.Fa.glo "is_name").ok K),
  (fun K => (He.Fa.glo "is_rising").ok K),
  (fun K => (He.Fa.glo "is_place").ok K),
  (fun K => (He.Fa.glo "is_program").ok K),
  (fun K => (He.Fa.glo "is_steps").ok K),
  (fun K => (He.Fa.glo "is_watcher").ok K),
  (fun K => (He.Fa.glo "is_end").ok K),
  (fun K => (He.Fa.glo "after_one").ok K),
  (fun K => (He.Fa.glo "after_many").ok K),
  (fun K => (He.Fa.glo "told_from").ok K),
  (fun K => (He.Fa.glo "taken_from").ok K),
  (fun K => (He.Fa.glo "all_moves").ok K),
  (fun K => (He.Fa.mkr "Source").ok K),
  (fun K => (He.Fa.glo "need_weights").ok K),
  (fun K => (He.Fa.glo "is_offer").ok K),
  (fun K => (He.Fa.glo "need_offers").ok K),
  (fun K => (He.Fa.glo "marked").ok K),
  (fun K => (He.Fa.glo "spread_of").ok K),
  (fun K => (He.Fa.glo "settled").ok K),
  (fun K => (He.Fa.glo "breach").ok K),
  (fun K => (He.Fa.glo "shows_breach").ok K),
  (fun K => (He.Fa.glo "cheapest").ok K),
  (fun K => (He.Fa.glo "shows_cheapest").ok K),
  (fun K => (He.Fa.glo "greatest_high").ok K),
  (fun K => (He.Fa.glo "_law_mixed").ok K),
  (fun K => (He.Fa.glo "_law_deck_of").ok K),
  (fun K => (He.Fa.glo "_law_below").ok K),
  (fun K => (He.Fa.glo "_law_pick").ok K),
  (fun K => (He.Fa.glo "_law_some_program").ok K),
  (fun K => (He.Fa.glo "_law_some_watcher").ok K),
  (fun K => (He.Fa.glo "_law_some_weights").ok K),
  (fun K => (He.Fa.glo "_law_some_offers").ok K),
  (fun K => (He.Fa.glo "_law_odd_weights").ok K),
  (fun K => (He.Fa.glo "_law_asked").ok K),
  (fun K => (He.Fa.glo "_law_refusal").ok K),
  (fun K => (He.Fa.glo "_law_odd_offers").ok K),
  (fun K => (He.Fa.glo "law").ok K)]
def fns : List He.DefD := [
  dme "TooMany" "__init__" "TooMany.__init__" (mtop 2 0),
  dfn "is_integer" (top 12),
  dfn "is_count" (top 13),
  dfn "is_name" (top 14),
  dfn "is_rising" (top 15),
  dfn "is_place" (top 19),
  dfn "is_program" (top 20),
  dfn "is_steps" (top 21),
  dfn "is_watcher" (top 22),
  dfn "is_end" (top 23),
  dfn "after_one" (top 26),
  dfn "after_many" (top 27),
  dfn "told_from" (top 28),
  dfn "taken_from" (top 29),
  dfn "all_moves" (top 30),
  dme "Source" "__init__" "Source.__init__" (mtop 31 0),
  dfn "need_weights" (top 39),
  dfn "is_offer" (top 59),
  dfn "need_offers" (top 60),
  dfn "marked" (top 65),
  dfn "spread_of" (top 46),
  dfn "settled" (top 66),
  dfn "breach" (top 67),
  dfn "shows_breach" (top 68),
  dfn "cheapest" (top 69),
  dfn "shows_cheapest" (top 72),
  dfn "greatest_high" (top 74),
  dfn "_law_mixed" (top 76),
  dfn "_law_deck_of" (top 77),
  dfn "_law_below" (top 78),
  dfn "_law_pick" (top 79),
  dfn "_law_some_program" (top 80),
  dfn "_law_some_watcher" (top 81),
  dfn "_law_some_weights" (top 82),
  dfn "_law_some_offers" (top 83),
  dfn "_law_odd_weights" (top 84),
  dfn "_law_asked" (top 85),
  dfn "_law_refusal" (top 86),
  dfn "_law_odd_offers" (top 87),
  dfn "law" (top 88)]
def nms0 : List Str := [("__name__" : Str), ("BlameError" : Str), ("TooMany" : Str), ("NoProgram" : Str), ("NoWatcher" : Str), ("NoWeights" : Str), ("NoChange" : Str), ("Mismatch" : Str), ("LETTERS" : Str), ("FIGURES" : Str), ("MAX_NAME" : Str), ("is_integer" : Str), ("is_count" : Str), ("is_name" : Str), ("is_rising" : Str), ("MAX_PLACES" : Str), ("MAX_STEPS" : Str), ("is_place" : Str), ("is_program" : Str), ("is_steps" : Str), ("is_watcher" : Str), ("is_end" : Str), ("BEGIN" : Str), ("after_one" : Str), ("after_many" : Str), ("told_from" : Str), ("taken_from" : Str), ("all_moves" : Str), ("Source" : Str), ("is_numbers" : Str), ("is_row" : Str), ("Ways" : Str), ("MAX_WEIGHT" : Str), ("need_weights" : Str), ("weight_of" : Str)]
def nms1 : List Str := [("START" : Str), ("heaviest" : Str), ("pairs_of" : Str), ("halves" : Str), ("spread_of" : Str), ("widest" : Str), ("spread_bounds" : Str), ("growth" : Str), ("is_node" : Str), ("are_bounds" : Str), ("shows_spread" : Str), ("are_alike" : Str), ("difference" : Str), ("comes_again" : Str), ("shows_growth" : Str), ("MAX_OFFERS" : Str), ("is_offer" : Str), ("need_offers" : Str), ("price_of" : Str), ("all_choices" : Str), ("is_choice" : Str), ("with_marks" : Str), ("marked" : Str), ("settled" : Str), ("breach" : Str), ("shows_breach" : Str), ("cheapest" : Str), ("is_reason" : Str), ("shows_within" : Str), ("shows_cheapest" : Str), ("with_high" : Str), ("greatest_high" : Str), ("_law_mixed" : Str), ("_law_deck_of" : Str), ("_law_below" : Str)]
def nms2 : List Str := [("_law_pick" : Str), ("_law_some_program" : Str), ("_law_some_watcher" : Str), ("_law_some_weights" : Str), ("_law_some_offers" : Str), ("_law_odd_weights" : Str), ("_law_asked" : Str), ("_law_refusal" : Str), ("_law_odd_offers" : Str)]
def nms : List Str := nms0 ++ nms1 ++ nms2
abbrev R : PySem.W.OpenRow := PySem.W.OpenLaw.row PySem.Challenge.rw_skidblame_k55_mends_refused
abbrev hk : PySem.W.Hook := hookX 4 fbs fns
def ob (s : PySem.W.SharedT) : He.AlD := obsXG 4 fbs fns (HandSHeadRun.getT s)
theorem ob_eq (s : PySem.W.SharedT) : ob s = hk.obs s.abs := obsXG_eq (HandSHeadRun.getT_eq s)
theorem run (w : World) : HandSHeadRun.RunEq R (PySem.W.view R.prog [88]) hk ob 6000 nms w := by
  intro os
  kernel_rfl
end K55
set_option Elab.async false
set_option linter.all false
set_option maxRecDepth 100000
set_option maxHeartbeats 4000000
namespace DM
open PySem PySem.Spec PyProof.Rows L2
inductive D where
  | non | bl (b : Bool) | int (i : Int) | str (x : Str) | ty (n : String)
  | tup (xs : List D) | lst (xs : List D)
  | dicK (kvs : List (Key × D)) | dicT (kvs : List (List Key × D))
  | ins (c : Str) (fs : List (Str × D))
  | cel (n : Nat)
  | scr (ns : List Int)
structure Ct where
  K : PySem.W.Frag
  mg : Str → Option Value
  ex : Option (Addr × Obj)
mutual
def Rep (c : Ct) (F : Hp) (m : List Addr) : D → V → Prop
  | .non, x => x = .non
  | .bl b, x => x = .bl b
  | .int i, x => x = .int i
  | .str s, x => x = .str s
  | .ty n, x => x = .ty n
  | .tup ds, x => ∃ a xs, x = .ref a ∧ SqT c.K F a xs ∧ RepL c F m ds xs
  | .lst ds, x => ∃ a xs, x = .ref a ∧ F a = some (.lst xs) ∧ RepL c F m ds xs
  | .scr ns, x => ∃ a, x = .ref a ∧ SqL c.K F a (ns.map V.int)
  | .dicK kvs, x => ∃ a xs, x = .ref a ∧ Rd F a (.dK xs) ∧ RepK c F m kvs xs
  | .dicT kvs, x => ∃ a xs, x = .ref a ∧ Rd F a (.dT xs) ∧ RepT c F m kvs xs
  | .ins cn fs, x => ∃ a C dx xs, x = .ref a ∧ c.mg cn = some (.ref C) ∧ F a = some (.ins C dx xs) ∧ F dx = some (.own a) ∧ RepF c F m fs xs
  | .cel n, x => ∃ a, m[n]? = some a ∧ x = .ref a
def RepL (c : Ct) (F : Hp) (m : List Addr) : List D → List V → Prop
  | [], xs => xs = []
  | d :: ds, xs => ∃ y ys, xs = y :: ys ∧ Rep c F m d y ∧ RepL c F m ds ys
def RepK (c : Ct) (F : Hp) (m : List Addr) : List (Key × D) → List (Key × V) → Prop
  | [], xs => xs = []
  | (k, d) :: ds, xs => ∃ y ys, xs = (k, y) :: ys ∧ Rep c F m d y ∧ RepK c F m ds ys
def RepT (c : Ct) (F : Hp) (m : List Addr) : List (List Key × D) → List (List Key × V) → Prop
  | [], xs => xs = []
  | (k, d) :: ds, xs => ∃ y ys, xs = (k, y) :: ys ∧ Rep c F m d y ∧ RepT c F m ds ys
def RepF (c : Ct) (F : Hp) (m : List Addr) : List (Str × D) → List (Str × V) → Prop
  | [], xs => xs = []
  | (k, d) :: ds, xs => ∃ y ys, xs = (k, y) :: ys ∧ Rep c F m d y ∧ RepF c F m ds ys
end
def isDic : HO → Bool
  | .dK _ => true
  | .dT _ => true
  | _ => false
def Sub (F H : Hp) : Prop := ∀ a u, F a = some u → (H a = some u ∨ (isDic u = true ∧ ∃ o, H a = some (.frz o u)))
theorem Sub.refl (F : Hp) : Sub F F := fun _ _ h => .inl h
theorem Sub.trans {F G H : Hp} (a : Sub F G) (b : Sub G H) : Sub F H := fun x u h => by
  rcases a x u h with h1 | ⟨d, o, h1⟩
  · exact b x u h1
  · rcases b x _ h1 with h2 | ⟨d2, _⟩
    · exact .inr ⟨d, o, h2⟩
    · cases d2
theorem Sub.rd {F H : Hp} (s : Sub F H) {a : Addr} {u : HO} (h : Rd F a u) : Rd H a u := by
  rcases h with h | ⟨o, h⟩
  · rcases s a u h with h1 | ⟨_, o, h1⟩
    · exact .inl h1
    · exact .inr ⟨o, h1⟩
  · rcases s a _ h with h1 | ⟨d, _⟩
    · exact .inr ⟨o, h1⟩
    · cases d
theorem Sub.at {F H : Hp} (s : Sub F H) {a : Addr} {u : HO} (h : F a = some u) (d : isDic u = false) : H a = some u := by
  rcases s a u h with h1 | ⟨e, _⟩
  · exact h1
  · rw [d] at e; cases e
theorem Sub.sqL {K : PySem.W.Frag} {F H : Hp} (s : Sub F H) {a : Addr} {xs : List V} (h : SqL K F a xs) : SqL K H a xs := by
  rcases h with h | h
  · exact .inl (s.rd h)
  · exact .inr h
theorem Sub.sqT {K : PySem.W.Frag} {F H : Hp} (s : Sub F H) {a : Addr} {xs : List V} (h : SqT K F a xs) : SqT K H a xs := by
  rcases h with h | h
  · exact .inl (s.rd h)
  · exact .inr h
theorem get_pre {m m' : List Addr} (h : m <+: m') {n : Nat} {a : Addr} (e : m[n]? = some a) : m'[n]? = some a := by
  obtain ⟨t, rfl⟩ := h
  have hn : n < m.length := (List.getElem?_eq_some_iff.mp e).1
  rw [List.getElem?_append_left hn]
  exact e
section
variable {c : Ct} {F F' : Hp} {m m' : List Addr}
mutual
theorem Rep.mono (s : Sub F F') (p : m <+: m') : ∀ (d : D) (x : V), Rep c F m d x → Rep c F' m' d x
  | .non, _, h => h
  | .bl _, _, h => h
  | .int _, _, h => h
  | .str _, _, h => h
  | .ty _, _, h => h
  | .tup ds, _, ⟨a, xs, e, q, r⟩ => ⟨a, xs, e, s.sqT q, RepL.mono s p ds xs r⟩
  | .lst ds, _, ⟨a, xs, e, q, r⟩ => ⟨a, xs, e, s.at q rfl, RepL.mono s p ds xs r⟩
  | .scr _, _, ⟨a, e, q⟩ => ⟨a, e, s.sqL q⟩
  | .dicK ds, _, ⟨a, xs, e, q, r⟩ => ⟨a, xs, e, s.rd q, RepK.mono s p ds xs r⟩
  | .dicT ds, _, ⟨a, xs, e, q, r⟩ => ⟨a, xs, e, s.rd q, RepT.mono s p ds xs r⟩
  | .ins _ fs, _, ⟨a, C, dx, xs, e, g, h1, h2, r⟩ => ⟨a, C, dx, xs, e, g, s.at h1 rfl, s.at h2 rfl, RepF.mono s p fs xs r⟩
  | .cel _, _, ⟨a, h, e⟩ => ⟨a, get_pre p h, e⟩
theorem RepL.mono (s : Sub F F') (p : m <+: m') : ∀ (d : List D) (x : List V), RepL c F m d x → RepL c F' m' d x
  | [], _, h => h
  | d :: ds, _, ⟨y, ys, e, h, r⟩ => ⟨y, ys, e, Rep.mono s p d y h, RepL.mono s p ds ys r⟩
theorem RepK.mono (s : Sub F F') (p : m <+: m') : ∀ (d : List (Key × D)) (x : List (Key × V)), RepK c F m d x → RepK c F' m' d x
  | [], _, h => h
  | (_, d) :: ds, _, ⟨y, ys, e, h, r⟩ => ⟨y, ys, e, Rep.mono s p d y h, RepK.mono s p ds ys r⟩
theorem RepT.mono (s : Sub F F') (p : m <+: m') : ∀ (d : List (List Key × D)) (x : List (List Key × V)), RepT c F m d x → RepT c F' m' d x
  | [], _, h => h
  | (_, d) :: ds, _, ⟨y, ys, e, h, r⟩ => ⟨y, ys, e, Rep.mono s p d y h, RepT.mono s p ds ys r⟩
theorem RepF.mono (s : Sub F F') (p : m <+: m') : ∀ (d : List (Str × D)) (x : List (Str × V)), RepF c F m d x → RepF c F' m' d x
  | [], _, h => h
  | (_, d) :: ds, _, ⟨y, ys, e, h, r⟩ => ⟨y, ys, e, Rep.mono s p d y h, RepF.mono s p ds ys r⟩
end
theorem RepL.length : ∀ {ds : List D} {xs : List V}, RepL c F m ds xs → ds.length = xs.length
  | [], xs, h => by rw [show xs = [] from h] <;> rfl
  | d :: ds, _, ⟨y, ys, e, _, r⟩ => by rw [e, List.length_cons, List.length_cons, RepL.length r]
theorem RepL.get : ∀ {ds : List D} {xs : List V} {i : Nat} {d : D}, RepL c F m ds xs → ds[i]? = some d → ∃ x, xs[i]? = some x ∧ Rep c F m d x
  | d :: ds, _, 0, d', ⟨y, ys, e, h, _⟩, q => by
    subst e
    have : d = d' := by simpa using q
    subst this
    exact ⟨y, rfl, h⟩
  | d :: ds, _, i + 1, d', ⟨y, ys, e, _, r⟩, q => by
    subst e
    obtain ⟨x, h1, h2⟩ := RepL.get (i := i) (d := d') r (by simpa using q)
    exact ⟨x, by simpa using h1, h2⟩
theorem RepL.append : ∀ {ds es : List D} {xs ys : List V}, RepL c F m ds xs → RepL c F m es ys → RepL c F m (ds ++ es) (xs ++ ys)
  | [], es, xs, ys, h, r => by rw [show xs = [] from h]; exact r
  | d :: ds, es, _, ys, ⟨y, zs, e, h, r⟩, q => by
    subst e
    exact ⟨y, zs ++ ys, rfl, h, RepL.append r q⟩
theorem RepL.one {d : D} {x : V} (h : Rep c F m d x) : RepL c F m [d] [x] := ⟨x, [], rfl, h, rfl⟩
theorem RepL.set : ∀ {ds : List D} {xs : List V} {i : Nat} {d : D} {x : V}, RepL c F m ds xs → Rep c F m d x → RepL c F m (ds.set i d) (xs.set i x)
  | [], xs, i, d, x, h, _ => by rw [show xs = [] from h]; exact rfl
  | e :: ds, _, 0, d, x, ⟨y, ys, q, h, r⟩, hd => by subst q; exact ⟨x, ys, rfl, hd, r⟩
  | e :: ds, _, i + 1, d, x, ⟨y, ys, q, h, r⟩, hd => by subst q; exact ⟨y, ys.set i x, rfl, h, RepL.set r hd⟩
theorem RepL.take : ∀ {ds : List D} {xs : List V} (n : Nat), RepL c F m ds xs → RepL c F m (ds.take n) (xs.take n)
  | ds, xs, 0, _ => by rw [List.take_zero, List.take_zero]; exact rfl
  | [], xs, n + 1, h => by rw [show xs = [] from h]; exact rfl
  | d :: ds, _, n + 1, ⟨y, ys, e, h, r⟩ => by subst e; exact ⟨y, ys.take n, rfl, h, RepL.take n r⟩
theorem RepL.drop : ∀ {ds : List D} {xs : List V} (n : Nat), RepL c F m ds xs → RepL c F m (ds.drop n) (xs.drop n)
  | ds, xs, 0, r => r
  | [], xs, n + 1, h => by rw [show xs = [] from h]; exact rfl
  | d :: ds, _, n + 1, ⟨y, ys, e, h, r⟩ => by subst e; exact RepL.drop n r
theorem RepL.cons {d : D} {ds : List D} {x : V} {xs : List V} (h : Rep c F m d x) (r : RepL c F m ds xs) : RepL c F m (d :: ds) (x :: xs) := ⟨x, xs, rfl, h, r⟩
end
inductive Slot where
  | val (d : D) | own (ds : List D) | ownK (kvs : List (Key × D)) | ownT (kvs : List (List Key × D))
  | exn (cls : Str) (fs : List (Str × D))
  | ownI (cn : Str) (fs : List (Str × D))
inductive Cell where
  | lst (ds : List D) | dK (kvs : List (Key × D)) | dT (kvs : List (List Key × D)) | ins (c : Str) (fs : List (Str × Slot))
structure S where
  env : List (Option Slot)
  cells : List Cell
structure Exc where
  cls : Str
  fs : List (Str × D)
inductive Res (α : Type) where
  | ok (a : α) (s : S) | exc (e : Exc) (s : S) | bad
abbrev M (α : Type) := S → Res α
inductive Flow where
  | nx | bk | ct | rt (d : D)
abbrev MS := S → Res Flow
inductive RRes where
  | ok (d : D) (cells : List Cell) | exc (e : Exc) (cells : List Cell) | bad
abbrev Fn := List D → List Cell → RRes
inductive Tag where
  | priv | slot (i : Nat) | cell (n : Nat) | fld (n : Nat) (f : Str) | aux (n : Nat)
structure Wd where
  F : Hp
  m : List Addr
  T : Addr → Option Tag
def Wd.le (w w' : Wd) : Prop := Sub w.F w'.F ∧ w.m <+: w'.m
theorem Wd.le.refl (w : Wd) : w.le w := ⟨Sub.refl _, List.prefix_refl _⟩
theorem Wd.le.trans {a b d : Wd} (h : a.le b) (k : b.le d) : a.le d := ⟨h.1.trans k.1, h.2.trans k.2⟩
abbrev RepW (c : Ct) (w : Wd) (d : D) (x : V) : Prop := Rep c w.F w.m d x
abbrev RepWL (c : Ct) (w : Wd) (d : List D) (x : List V) : Prop := RepL c w.F w.m d x
theorem RepW.le {c : Ct} {w w' : Wd} (h : w.le w') {d : D} {x : V} (r : RepW c w d x) : RepW c w' d x := Rep.mono h.1 h.2 d x r
theorem RepWL.le {c : Ct} {w w' : Wd} (h : w.le w') {d : List D} {x : List V} (r : RepWL c w d x) : RepWL c w' d x := RepL.mono h.1 h.2 d x r
def SlotOk (c : Ct) (H : Hp) (w : Wd) (t : Tag) : Slot → V → Prop
  | .val d, x => RepW c w d x
  | .own ds, x => ∃ a xs, x = .ref a ∧ w.T a = some t ∧ H a = some (.lst xs) ∧ RepWL c w ds xs
  | .ownK ds, x => ∃ a xs, x = .ref a ∧ w.T a = some t ∧ H a = some (.dK xs) ∧ RepK c w.F w.m ds xs
  | .ownT ds, x => ∃ a xs, x = .ref a ∧ w.T a = some t ∧ H a = some (.dT xs) ∧ RepT c w.F w.m ds xs
  | .exn cls fs, x => ∃ a oe C d xs, c.ex = some (a, oe) ∧ x = .ref a ∧ c.mg cls = some (.ref C) ∧ Zc (.ref C) (some d) oe ∧ (∃ vs, oe.data = .fields vs) ∧ w.F d = some (.xd xs) ∧ RepF c w.F w.m fs xs
  | .ownI cn fs, x => ∃ a C dx xs, x = .ref a ∧ c.mg cn = some (.ref C) ∧ w.T a = some t ∧ H a = some (.ins C dx xs) ∧ w.T dx = some t ∧ H dx = some (.own a) ∧ RepF c w.F w.m fs xs
def FldsOk (c : Ct) (H : Hp) (w : Wd) (n : Nat) : List (Str × Slot) → List (Str × V) → Prop
  | [], xs => xs = []
  | (f, s) :: r, xs => ∃ y ys, xs = (f, y) :: ys ∧ SlotOk c H w (.fld n f) s y ∧ FldsOk c H w n r ys
def CellOk (c : Ct) (H : Hp) (w : Wd) (n : Nat) (a : Addr) : Cell → Prop
  | .lst ds => ∃ xs, H a = some (.lst xs) ∧ RepWL c w ds xs
  | .dK ds => ∃ xs, H a = some (.dK xs) ∧ RepK c w.F w.m ds xs
  | .dT ds => ∃ xs, H a = some (.dT xs) ∧ RepT c w.F w.m ds xs
  | .ins cn fs => ∃ C dx xs, c.mg cn = some (.ref C) ∧ H a = some (.ins C dx xs) ∧ w.T dx = some (.aux n) ∧ H dx = some (.own a) ∧ FldsOk c H w n fs xs
structure CellsOk (c : Ct) (cells : List Cell) (H : Hp) (w : Wd) : Prop where
  sub : Sub w.F H
  tg : ∀ a t, w.T a = some t → w.F a = none ∧ H a ≠ none
  len : w.m.length = cells.length
  at_ : ∀ n cl, cells[n]? = some cl → ∃ a, w.m[n]? = some a ∧ w.T a = some (.cell n) ∧ CellOk c H w n a cl
def Frame (T0 : Addr → Option Tag) (H0 : Hp) (T : Addr → Option Tag) (H : Hp) : Prop := ∀ a, T0 a = some .priv → T a = some .priv ∧ H a = H0 a
structure Bs where
  T : Addr → Option Tag
  H : Hp
  me : Option V
structure Sim (c : Ct) (B : Bs) (s : S) (σ : L2.St) (H : Hp) (w : Wd) : Prop where
  co : CellsOk c s.cells H w
  len : s.env.length = σ.length
  sl : ∀ i t, s.env[i]? = some (some t) → ∃ x, σ[i]? = some (some x) ∧ SlotOk c H w (.slot i) t x
  fr : Frame B.T B.H w.T H
  me : ∀ (i : Nat) (cn : Str) (fs : List (Str × D)) (x : V), s.env[i]? = some (some (Slot.ownI cn fs)) → σ[i]? = some (some x) → B.me = some x
def ExcOk (c : Ct) (H : Hp) (w : Wd) (e : Exc) (cls : Value) (d : Option Addr) : Prop :=
  ∃ C, c.mg e.cls = some (.ref C) ∧ cls = .ref C ∧ ((e.fs = [] ∧ d = none) ∨ ∃ a xs, d = some a ∧ w.F a = some (.xd xs) ∧ RepF c w.F w.m e.fs xs)
abbrev XC (X : Cx) : Ct := ⟨X.K, X.mg, cond X.calm none X.pn.head?⟩
section
variable (c : Ct) (B : Bs) (W : WX)
def PostX (e : Exc) (s : S) (w : Wd) : Prop := ∀ cls d σ' H' w', w.le w' → Sim c B s σ' H' w' → ExcOk c H' w' e cls d → W cls d σ' H'
def Post {α β : Type} (R : Wd → α → β → Prop) (r : Res α) (σ : L2.St) (w : Wd) (Q : β → Hp → Prop) : Prop :=
  match r with
  | .ok a s => ∀ x H' w', w.le w' → Sim c B s σ H' w' → R w' a x → Q x H'
  | .exc e s => PostX c B W e s w
  | .bad => False
def PostS (r : Res Flow) (w : Wd) (D : Ends) : Prop :=
  match r with
  | .ok .nx s => ∀ σ' H' w', w.le w' → Sim c B s σ' H' w' → D.nx σ' H'
  | .ok .bk s => ∀ σ' H' w', w.le w' → Sim c B s σ' H' w' → D.bk σ' H'
  | .ok .ct s => ∀ σ' H' w', w.le w' → Sim c B s σ' H' w' → D.ct σ' H'
  | .ok (.rt d) s => ∀ x σ' H' w', w.le w' → Sim c B s σ' H' w' → RepW c w' d x → D.rt x H'
  | .exc e s => PostX c B W e s w
  | .bad => False
end
section
variable {c : Ct} {B : Bs} {W : WX} {α β : Type} {R : Wd → α → β → Prop} {w w' : Wd} {σ : L2.St}
theorem PostX.up {e : Exc} {s : S} (h : PostX c B W e s w) (l : w.le w') : PostX c B W e s w' := fun cls d σ' H' w2 l2 S r => h cls d σ' H' w2 (l.trans l2) S r
theorem Post.up {r : Res α} {Q : β → Hp → Prop} (h : Post c B W R r σ w Q) (l : w.le w') : Post c B W R r σ w' Q := by
  cases r with
  | ok a s => exact fun x H' w2 l2 S q => h x H' w2 (l.trans l2) S q
  | exc e s => exact PostX.up h l
  | bad => exact h
theorem PostS.up {r : Res Flow} {D : Ends} (h : PostS c B W r w D) (l : w.le w') : PostS c B W r w' D := by
  cases r with
  | ok f s => cases f with
    | nx => exact fun σ' H' w2 l2 S => h σ' H' w2 (l.trans l2) S
    | bk => exact fun σ' H' w2 l2 S => h σ' H' w2 (l.trans l2) S
    | ct => exact fun σ' H' w2 l2 S => h σ' H' w2 (l.trans l2) S
    | rt d => exact fun x σ' H' w2 l2 S => h x σ' H' w2 (l.trans l2) S
  | exc e s => exact PostX.up h l
  | bad => exact h
end
def bnd {α γ : Type} (m : M α) (f : α → M γ) : M γ := fun s => match m s with
  | .ok a s' => f a s'
  | .exc e s' => .exc e s'
  | .bad => .bad
def ret {α : Type} (a : α) : M α := fun s => .ok a s
def bad {α : Type} : M α := fun _ => .bad
section
variable {c : Ct} {B : Bs} {W : WX} {α β γ δ : Type} {R : Wd → α → β → Prop} {R' : Wd → γ → δ → Prop} {w : Wd} {σ : L2.St}
theorem post_bnd {m : M α} {f : α → M γ} {s : S} {Q : δ → Hp → Prop} {Q1 : β → Hp → Prop} (h : Post c B W R' (bnd m f s) σ w Q)
    (k : ∀ a s1 x H1 w1, m s = .ok a s1 → w.le w1 → Sim c B s1 σ H1 w1 → R w1 a x → Post c B W R' (f a s1) σ w1 Q → Q1 x H1) : Post c B W R (m s) σ w Q1 := by
  unfold bnd at h
  cases e : m s with
  | ok a s1 =>
    rw [e] at h
    exact fun x H1 w1 l S1 r => k a s1 x H1 w1 e l S1 r (Post.up h l)
  | exc ex s1 => rw [e] at h; exact h
  | bad => rw [e] at h; exact h
theorem posts_bnd {m : M α} {f : α → MS} {s : S} {D : Ends} {Q1 : β → Hp → Prop} (h : PostS c B W (bnd m f s) w D)
    (k : ∀ a s1 x H1 w1, m s = .ok a s1 → w.le w1 → Sim c B s1 σ H1 w1 → R w1 a x → PostS c B W (f a s1) w1 D → Q1 x H1) : Post c B W R (m s) σ w Q1 := by
  unfold bnd at h
  cases e : m s with
  | ok a s1 =>
    rw [e] at h
    exact fun x H1 w1 l S1 r => k a s1 x H1 w1 e l S1 r (PostS.up h l)
  | exc ex s1 => rw [e] at h; exact h
  | bad => rw [e] at h; exact h
theorem post_ret {a : α} {s : S} {Q : β → Hp → Prop} {x : β} {H' : Hp} {w' : Wd} (h : Post c B W R (ret a s) σ w Q) (l : w.le w') (S1 : Sim c B s σ H' w') (r : R w' a x) : Q x H' := h x H' w' l S1 r
end
section
variable (X : Cx) (W : WX)
def DE (e : Expr) (m : M D) : Prop := ∃ t, PE X e t ∧ ∀ B s σ H w Q, Sim (XC X) B s σ H w → Post (XC X) B W (RepW (XC X)) (m s) σ w Q → t σ H Q
def RFr (c : Ct) (H : Hp) (w : Wd) (ds : List D) (x : V) : Prop := ∃ a xs, x = .ref a ∧ H a = some (.lst xs) ∧ w.F a = none ∧ w.T a = none ∧ RepWL c w ds xs
def PostF (c : Ct) (B : Bs) (W : WX) (r : Res (List D)) (σ : L2.St) (w : Wd) (Q : V → Hp → Prop) : Prop :=
  match r with
  | .ok ds s => ∀ x H' w', w.le w' → Sim c B s σ H' w' → RFr c H' w' ds x → Q x H'
  | .exc e s => PostX c B W e s w
  | .bad => False
def DF (e : Expr) (m : M (List D)) : Prop := ∃ t, PE X e t ∧ ∀ B s σ H w Q, Sim (XC X) B s σ H w → PostF (XC X) B W (m s) σ w Q → t σ H Q
def DT (e : Expr) (m : M Bool) : Prop := ∃ t, PT X e t ∧ ∀ B s σ H w Q, Sim (XC X) B s σ H w → Post (XC X) B W (fun _ a b => a = b) (m s) σ w Q → t σ H Q
def DW (e : Expr) (m : M Bool) : Prop := ∃ t, PW X e t ∧ ∀ B s σ H w Q, Sim (XC X) B s σ H w → Post (XC X) B W (fun _ a b => a = b) (m s) σ w Q → t σ H Q
def DA (es : List Expr) (m : M (List D)) : Prop := ∃ t, PA X es t ∧ ∀ B s σ H w Q, Sim (XC X) B s σ H w → Post (XC X) B W (RepWL (XC X)) (m s) σ w Q → t σ H Q
def DS (st : Stmt) (m : MS) : Prop := ∃ t, PS X st t ∧ ∀ B s σ H w D, Sim (XC X) B s σ H w → PostS (XC X) B W (m s) w D → t D σ H
def DSs (st : List Stmt) (m : MS) : Prop := ∃ t, PSs X st t ∧ ∀ B s σ H w D, Sim (XC X) B s σ H w → PostS (XC X) B W (m s) w D → t D σ H
end
end DM
set_option Elab.async false
set_option linter.all false
set_option maxRecDepth 100000
set_option maxHeartbeats 4000000
namespace DM
open PySem PySem.Spec PyProof.Rows L2
section
variable {c : Ct} {B : Bs} {s : S} {σ : L2.St} {H H' : Hp} {w w' : Wd} {p : Addr} {o : HO}
def tagCell (n : Nat) : Tag → Prop
  | .cell k => k = n
  | .fld k _ => k = n
  | .aux k => k = n
  | _ => False
theorem SlotOk.mono {t : Tag} (k : ∀ a o, w.T a = some t → H a = some o → w'.T a = some t ∧ H' a = some o) (l : w.le w') : ∀ {sl : Slot} {x : V}, SlotOk c H w t sl x → SlotOk c H' w' t sl x
  | .val d, _, h => RepW.le l h
  | .own ds, _, ⟨a, xs, e, ht, hh, r⟩ => ⟨a, xs, e, (k a _ ht hh).1, (k a _ ht hh).2, RepWL.le l r⟩
  | .ownK ds, _, ⟨a, xs, e, ht, hh, r⟩ => ⟨a, xs, e, (k a _ ht hh).1, (k a _ ht hh).2, RepK.mono l.1 l.2 _ _ r⟩
  | .ownT ds, _, ⟨a, xs, e, ht, hh, r⟩ => ⟨a, xs, e, (k a _ ht hh).1, (k a _ ht hh).2, RepT.mono l.1 l.2 _ _ r⟩
  | .exn _ _, _, ⟨a, oe, C, d, xs, e1, e2, e3, e4, e5, hF, r⟩ => ⟨a, oe, C, d, xs, e1, e2, e3, e4, e5, l.1.at hF rfl, RepF.mono l.1 l.2 _ _ r⟩
  | .ownI _ _, _, ⟨a, C, dx, xs, e1, e2, h1, h2, h3, h4, r⟩ => ⟨a, C, dx, xs, e1, e2, (k a _ h1 h2).1, (k a _ h1 h2).2, (k dx _ h3 h4).1, (k dx _ h3 h4).2, RepF.mono l.1 l.2 _ _ r⟩
theorem FldsOk.mono {n : Nat} (k : ∀ f a o, w.T a = some (.fld n f) → H a = some o → w'.T a = some (.fld n f) ∧ H' a = some o) (l : w.le w') : ∀ {fs : List (Str × Slot)} {xs : List (Str × V)}, FldsOk c H w n fs xs → FldsOk c H' w' n fs xs
  | [], _, h => h
  | (f, sl) :: r, _, ⟨y, ys, e, h, hr⟩ => ⟨y, ys, e, SlotOk.mono (k f) l h, FldsOk.mono k l hr⟩
theorem CellOk.mono {n : Nat} {a : Addr} (k : ∀ t a o, tagCell n t → w.T a = some t → H a = some o → w'.T a = some t ∧ H' a = some o) (l : w.le w') (ha : w.T a = some (.cell n)) : ∀ {cl : Cell}, CellOk c H w n a cl → CellOk c H' w' n a cl
  | .lst ds, ⟨xs, h, r⟩ => ⟨xs, (k (.cell n) a _ rfl ha h).2, RepWL.le l r⟩
  | .dK ds, ⟨xs, h, r⟩ => ⟨xs, (k (.cell n) a _ rfl ha h).2, RepK.mono l.1 l.2 _ _ r⟩
  | .dT ds, ⟨xs, h, r⟩ => ⟨xs, (k (.cell n) a _ rfl ha h).2, RepT.mono l.1 l.2 _ _ r⟩
  | .ins cn fs, ⟨C, dx, xs, g, h, ht, hd, r⟩ => ⟨C, dx, xs, g, (k (.cell n) a _ rfl ha h).2, (k (.aux n) dx _ rfl ht hd).1, (k (.aux n) dx _ rfl ht hd).2, FldsOk.mono (fun f a o => k (.fld n f) a o rfl) l r⟩
theorem Sim.step {env' : List (Option Slot)} {cells' : List Cell} {σ' : L2.St} (S : Sim c B s σ H w) (ok : Tag → Prop) (l : w.le w')
    (keep : ∀ a t o, ok t → w.T a = some t → H a = some o → w'.T a = some t ∧ H' a = some o) (hp : ok .priv)
    (sub : Sub w'.F H') (tg : ∀ a t, w'.T a = some t → w'.F a = none ∧ H' a ≠ none) (len : env'.length = σ'.length)
    (sl : ∀ i t, env'[i]? = some (some t) → (ok (.slot i) ∧ s.env[i]? = some (some t) ∧ σ'[i]? = σ[i]?) ∨ ∃ x, σ'[i]? = some (some x) ∧ SlotOk c H' w' (.slot i) t x ∧ ∀ cn fs, t = .ownI cn fs → B.me = some x)
    (clen : w'.m.length = cells'.length)
    (ce : ∀ n cl, cells'[n]? = some cl → ((∀ t, tagCell n t → ok t) ∧ s.cells[n]? = some cl) ∨ ∃ a, w'.m[n]? = some a ∧ w'.T a = some (.cell n) ∧ CellOk c H' w' n a cl) :
    Sim c B ⟨env', cells'⟩ σ' H' w' := by
  refine ⟨⟨sub, tg, clen, fun n cl e => ?_⟩, len, fun i t e => ?_, fun a ha => ?_, fun i cn fs x e ex => ?_⟩
  · rcases ce n cl e with ⟨h1, h2⟩ | h
    · obtain ⟨a, e1, e2, e3⟩ := S.co.at_ n cl h2
      obtain ⟨_, hn⟩ := S.co.tg a _ e2
      obtain ⟨ob, hob⟩ := Option.ne_none_iff_exists'.mp hn
      exact ⟨a, get_pre l.2 e1, (keep a _ ob (h1 (.cell n) rfl) e2 hob).1, CellOk.mono (fun t b o' ht => keep b t o' (h1 t ht)) l e2 e3⟩
    · exact h
  · rcases sl i t e with ⟨h1, h2, h3⟩ | h
    · obtain ⟨x, e1, e2⟩ := S.sl i t h2
      exact ⟨x, by rw [h3]; exact e1, SlotOk.mono (fun b o' => keep b _ o' h1) l e2⟩
    · obtain ⟨x, h1, h2, _⟩ := h
      exact ⟨x, h1, h2⟩
  · obtain ⟨h1, h2⟩ := S.fr a ha
    obtain ⟨_, hn⟩ := S.co.tg a _ h1
    obtain ⟨ob, hob⟩ := Option.ne_none_iff_exists'.mp hn
    obtain ⟨k1, k2⟩ := keep a _ ob hp h1 hob
    exact ⟨k1, by rw [k2, ← h2, hob]⟩
  · rcases sl i _ e with ⟨h1, h2, h3⟩ | ⟨y, h1, h2, h3⟩
    · exact S.me i cn fs x h2 (by rw [← h3]; exact ex)
    · rw [ex] at h1
      cases h1
      exact h3 cn fs rfl
theorem Sim.free_T (S : Sim c B s σ H w) (h : H p = none) : w.T p = none := by
  cases e : w.T p with
  | none => rfl
  | some t => exact absurd h (S.co.tg p t e).2
theorem Sim.free_F (S : Sim c B s σ H w) (h : H p = none) : w.F p = none := by
  cases e : w.F p with
  | none => rfl
  | some u =>
    rcases S.co.sub p u e with h1 | ⟨_, o, h1⟩ <;> rw [h] at h1 <;> cases h1
theorem sub_new {F : Hp} (h : Sub F H) (hp : H p = none) : Sub F (upd H p o) := fun a u e => by
  rcases h a u e with h1 | ⟨d, o', h1⟩
  · exact .inl (by rw [upd_ne (ne_of_none h1 hp)]; exact h1)
  · exact .inr ⟨d, o', by rw [upd_ne (ne_of_none h1 hp)]; exact h1⟩
theorem sub_newF {F : Hp} (h : Sub F H) (hp : H p = none) : Sub (upd F p o) (upd H p o) := fun a u e => by
  by_cases ha : a = p
  · subst ha; rw [upd_same] at e; rw [upd_same]; exact .inl e
  · rw [upd_ne ha] at e
    exact sub_new h hp a u e
theorem sub_upd {F : Hp} (h : F p = none) : Sub F (upd F p o) := fun a u e => .inl (by rw [upd_ne (ne_of_none e h)]; exact e)
theorem le_newF (h : w.F p = none) : w.le ⟨upd w.F p o, w.m, w.T⟩ := ⟨fun a u e => .inl (by show upd w.F p o a = some u; rw [upd_ne (ne_of_none e h)]; exact e), List.prefix_refl _⟩
theorem Sim.new (S : Sim c B s σ H w) (hp : H p = none) : Sim c B s σ (upd H p o) w :=
  S.step (fun _ => True) (Wd.le.refl w) (fun a t o' _ h1 h2 => ⟨h1, by rw [upd_ne (ne_of_none h2 hp)]; exact h2⟩) trivial (sub_new S.co.sub hp)
    (fun a t h => ⟨(S.co.tg a t h).1, fun q => by
      by_cases ha : a = p
      · rw [ha, upd_same] at q; cases q
      · rw [upd_ne ha] at q; exact (S.co.tg a t h).2 q⟩) S.len (fun i t h => .inl ⟨trivial, h, rfl⟩) S.co.len fun n cl h => .inl ⟨fun _ _ => trivial, h⟩
theorem Sim.newF (S : Sim c B s σ H w) (hp : H p = none) : Sim c B s σ (upd H p o) ⟨upd w.F p o, w.m, w.T⟩ :=
  S.step (fun _ => True) (le_newF (S.free_F hp)) (fun a t o' _ h1 h2 => ⟨h1, by rw [upd_ne (ne_of_none h2 hp)]; exact h2⟩) trivial (sub_newF S.co.sub hp)
    (fun a t h => by
      have hn : a ≠ p := fun e => by
        have h' : w.T a = some t := h
        rw [e, S.free_T hp] at h'; cases h'
      refine ⟨?_, ?_⟩
      · show upd w.F p o a = none
        rw [upd_ne hn]; exact (S.co.tg a t h).1
      · rw [upd_ne hn]; exact (S.co.tg a t h).2) S.len (fun i t h => .inl ⟨trivial, h, rfl⟩) S.co.len fun n cl h => .inl ⟨fun _ _ => trivial, h⟩
theorem Sim.freeze (S : Sim c B s σ H w) {a : Addr} {u : HO} (h1 : H a = some u) (h2 : w.F a = none) (h3 : w.T a = none) : Sim c B s σ H ⟨upd w.F a u, w.m, w.T⟩ :=
  S.step (fun _ => True) (le_newF h2) (fun b t o' _ k1 k2 => ⟨k1, k2⟩) trivial
    (fun b v e => by
      have e' : upd w.F a u b = some v := e
      by_cases hb : b = a
      · rw [hb, upd_same] at e'; rw [hb]; exact .inl (h1.trans e')
      · rw [upd_ne hb] at e'; exact S.co.sub b v e')
    (fun b t h => by
      have hn : b ≠ a := fun e => by
        have h' : w.T b = some t := h
        rw [e, h3] at h'; cases h'
      exact ⟨by show upd w.F a u b = none; rw [upd_ne hn]; exact (S.co.tg b t h).1, (S.co.tg b t h).2⟩) S.len (fun i t h => .inl ⟨trivial, h, rfl⟩) S.co.len fun n cl h => .inl ⟨fun _ _ => trivial, h⟩
theorem get_set_self {α : Type} {l : List α} {i : Nat} {v : α} (h : i < l.length) : (l.set i v)[i]? = some v := by simp [h]
theorem get_set_ne {α : Type} {l : List α} {i j : Nat} {v : α} (h : j ≠ i) : (l.set i v)[j]? = l[j]? := by rw [List.getElem?_set_ne (Ne.symm h)]
theorem Sim.freezeSlot (S : Sim c B s σ H w) {a : Addr} {u : HO} {i : Nat} {d : D} {x : V} (hx : σ[i]? = some (some x)) (ht : w.T a = some (.slot i)) (h1 : H a = some u)
    (r : RepW c ⟨upd w.F a u, w.m, fun b => if b = a then none else w.T b⟩ d x) :
    w.le ⟨upd w.F a u, w.m, fun b => if b = a then none else w.T b⟩ ∧ Sim c B ⟨s.env.set i (some (.val d)), s.cells⟩ σ H ⟨upd w.F a u, w.m, fun b => if b = a then none else w.T b⟩ := by
  have hF := (S.co.tg a _ ht).1
  have l : w.le ⟨upd w.F a u, w.m, fun b => if b = a then none else w.T b⟩ := ⟨fun b v e => .inl (by show upd w.F a u b = some v; rw [upd_ne (ne_of_none e hF)]; exact e), List.prefix_refl _⟩
  refine ⟨l, S.step (fun t => t ≠ .slot i) l (fun b t o' hk k1 k2 => ⟨?_, k2⟩) (by intro e; cases e) (fun b v e => ?_) (fun b t h => ?_) (by rw [List.length_set]; exact S.len) (fun j t h => ?_) S.co.len (fun n cl h => .inl ⟨fun t ht e => by subst e; exact ht, h⟩)⟩
  · show (if b = a then none else w.T b) = some t
    rw [if_neg fun e => by rw [e, ht] at k1; exact hk (Option.some.inj k1).symm]
    exact k1
  · have e' : upd w.F a u b = some v := e
    by_cases hb : b = a
    · rw [hb, upd_same] at e'; rw [hb]; exact .inl (h1.trans e')
    · rw [upd_ne hb] at e'; exact S.co.sub b v e'
  · have h' : (if b = a then none else w.T b) = some t := h
    by_cases hb : b = a
    · rw [if_pos hb] at h'; cases h'
    · rw [if_neg hb] at h'
      exact ⟨by show upd w.F a u b = none; rw [upd_ne hb]; exact (S.co.tg b t h').1, (S.co.tg b t h').2⟩
  · by_cases hj : j = i
    · subst hj
      have hl : j < s.env.length := by
        rw [S.len]
        exact (List.getElem?_eq_some_iff.mp hx).1
      rw [get_set_self hl] at h
      cases h
      exact .inr ⟨x, hx, r, fun _ _ e => nomatch e⟩
    · rw [get_set_ne hj] at h
      exact .inl ⟨fun e => by injection e with e; exact hj e, h, rfl⟩
theorem Sim.setVal (S : Sim c B s σ H w) {i : Nat} {d : D} {x : V} (r : RepW c w d x) : Sim c B ⟨s.env.set i (some (.val d)), s.cells⟩ (σ.set i (some x)) H w :=
  S.step (fun _ => True) (Wd.le.refl w) (fun a t o' _ h1 h2 => ⟨h1, h2⟩) trivial S.co.sub S.co.tg (by rw [List.length_set, List.length_set]; exact S.len) (fun j t h => by
    by_cases hj : j = i
    · subst hj
      have hl : j < s.env.length := by
        have h0 := (List.getElem?_eq_some_iff.mp h).1
        rw [List.length_set] at h0
        exact h0
      rw [get_set_self hl] at h
      cases h
      exact .inr ⟨x, by rw [get_set_self (by rw [← S.len]; exact hl)], r, fun _ _ e => nomatch e⟩
    · rw [get_set_ne hj] at h
      exact .inl ⟨trivial, h, get_set_ne hj⟩) S.co.len fun n cl h => .inl ⟨fun _ _ => trivial, h⟩
theorem Sim.setOwn (S : Sim c B s σ H w) {i : Nat} {a : Addr} {u : HO} {t0 : Slot} (h1 : H a = some u) (h2 : w.F a = none) (h3 : w.T a = none)
    (r : SlotOk c H ⟨w.F, w.m, fun b => if b = a then some (.slot i) else w.T b⟩ (.slot i) t0 (.ref a)) (hme : ∀ cn fs, t0 = .ownI cn fs → B.me = some (.ref a) := by intro _ _ h; cases h) :
    Sim c B ⟨s.env.set i (some t0), s.cells⟩ (σ.set i (some (.ref a))) H ⟨w.F, w.m, fun b => if b = a then some (.slot i) else w.T b⟩ := by
  refine S.step (w' := ⟨w.F, w.m, fun b => if b = a then some (.slot i) else w.T b⟩) (fun _ => True) ⟨Sub.refl _, List.prefix_refl _⟩ (fun b t o' _ k1 k2 => ⟨?_, k2⟩) trivial S.co.sub (fun b t h => ?_) (by rw [List.length_set, List.length_set]; exact S.len) (fun j t h => ?_) S.co.len fun n cl h => .inl ⟨fun _ _ => trivial, h⟩
  · show (if b = a then some (Tag.slot i) else w.T b) = some t
    rw [if_neg fun e => by rw [e, h3] at k1; cases k1]
    exact k1
  · have h' : (if b = a then some (Tag.slot i) else w.T b) = some t := h
    by_cases hb : b = a
    · rw [hb]; exact ⟨h2, by rw [h1]; intro q; cases q⟩
    · rw [if_neg hb] at h'; exact S.co.tg b t h'
  · by_cases hj : j = i
    · subst hj
      have hl : j < s.env.length := by
        have h0 := (List.getElem?_eq_some_iff.mp h).1
        rw [List.length_set] at h0
        exact h0
      rw [get_set_self hl] at h
      cases h
      exact .inr ⟨.ref a, by rw [get_set_self (by rw [← S.len]; exact hl)], r, hme⟩
    · rw [get_set_ne hj] at h
      exact .inl ⟨trivial, h, get_set_ne hj⟩
theorem mut_sub {F : Hp} {a : Addr} (h : Sub F H) (hf : F a = none) : Sub F (upd H a o) := fun b u e => by
  have hb : b ≠ a := fun z => by rw [z, hf] at e; cases e
  rcases h b u e with h1 | ⟨d, o', h1⟩
  · exact .inl (by rw [upd_ne hb]; exact h1)
  · exact .inr ⟨d, o', by rw [upd_ne hb]; exact h1⟩
theorem Sim.mutOwn (S : Sim c B s σ H w) {i : Nat} {a : Addr} {u : HO} {t0 : Slot} {x : V} (hx : σ[i]? = some (some x)) (ht : w.T a = some (.slot i)) (r : SlotOk c (upd H a u) w (.slot i) t0 x) (hme : ∀ cn fs, t0 = .ownI cn fs → B.me = some x := by intro _ _ h; cases h) :
    Sim c B ⟨s.env.set i (some t0), s.cells⟩ σ (upd H a u) w := by
  refine S.step (fun t => t ≠ .slot i) (Wd.le.refl w) (fun b t o' hk k1 k2 => ⟨k1, ?_⟩) (by intro e; cases e) (mut_sub S.co.sub (S.co.tg a _ ht).1) (fun b t h => ⟨(S.co.tg b t h).1, fun q => ?_⟩) (by rw [List.length_set]; exact S.len) (fun j t h => ?_) S.co.len (fun n cl h => .inl ⟨fun t ht e => by subst e; exact ht, h⟩)
  · rw [upd_ne fun e => by rw [e, ht] at k1; exact hk (Option.some.inj k1).symm]
    exact k2
  · by_cases hb : b = a
    · rw [hb, upd_same] at q; cases q
    · rw [upd_ne hb] at q; exact (S.co.tg b t h).2 q
  · by_cases hj : j = i
    · subst hj
      have hl : j < s.env.length := by
        rw [S.len]
        exact (List.getElem?_eq_some_iff.mp hx).1
      rw [get_set_self hl] at h
      cases h
      exact .inr ⟨x, hx, r, hme⟩
    · rw [get_set_ne hj] at h
      exact .inl ⟨fun e => by injection e with e; exact hj e, h, rfl⟩
theorem Sim.mutCell (S : Sim c B s σ H w) {n : Nat} {a : Addr} {u : HO} {cl : Cell} (hm : w.m[n]? = some a) (ht : w.T a = some (.cell n)) (r : CellOk c (upd H a u) w n a cl) :
    Sim c B ⟨s.env, s.cells.set n cl⟩ σ (upd H a u) w := by
  refine S.step (fun t => ¬ tagCell n t) (Wd.le.refl w) (fun b t o' hk k1 k2 => ⟨k1, ?_⟩) (fun h => h) (mut_sub S.co.sub (S.co.tg a _ ht).1) (fun b t h => ⟨(S.co.tg b t h).1, fun q => ?_⟩) S.len (fun j t h => .inl ⟨fun h => h, h, rfl⟩) (by rw [List.length_set]; exact S.co.len) (fun k cl' h => ?_)
  · rw [upd_ne fun e => by rw [e, ht] at k1; rw [← Option.some.inj k1] at hk; exact hk rfl]
    exact k2
  · by_cases hb : b = a
    · rw [hb, upd_same] at q; cases q
    · rw [upd_ne hb] at q; exact (S.co.tg b t h).2 q
  · by_cases hj : k = n
    · subst hj
      have hl : k < s.cells.length := by
        rw [← S.co.len]
        exact (List.getElem?_eq_some_iff.mp hm).1
      rw [get_set_self hl] at h
      cases h
      exact .inr ⟨a, hm, ht, r⟩
    · rw [get_set_ne hj] at h
      refine .inl ⟨fun t h1 h2 => ?_, h⟩
      cases t <;> first | exact h1 | exact hj (h1.symm.trans h2)
end
def PRep (c : Ct) (H : Hp) (w : Wd) : D → V → Prop
  | .lst ds, x => ∃ a xs, x = .ref a ∧ H a = some (.lst xs) ∧ RepWL c w ds xs
  | .scr ns, x => ∃ a, x = .ref a ∧ SqL c.K H a (ns.map V.int)
  | .dicK ds, x => ∃ a xs, x = .ref a ∧ Rd H a (.dK xs) ∧ RepK c w.F w.m ds xs
  | .dicT ds, x => ∃ a xs, x = .ref a ∧ Rd H a (.dT xs) ∧ RepT c w.F w.m ds xs
  | d, x => RepW c w d x
def PRepL (c : Ct) (H : Hp) (w : Wd) : List D → List V → Prop
  | [], xs => xs = []
  | d :: ds, xs => ∃ y ys, xs = y :: ys ∧ PRep c H w d y ∧ PRepL c H w ds ys
theorem PRep.of {c : Ct} {H : Hp} {w : Wd} (s : Sub w.F H) : ∀ {d : D} {x : V}, RepW c w d x → PRep c H w d x
  | .lst ds, _, ⟨a, xs, e, q, r⟩ => ⟨a, xs, e, s.at q rfl, r⟩
  | .scr _, _, ⟨a, e, q⟩ => ⟨a, e, s.sqL q⟩
  | .tup _, _, h => h
  | .dicK ds, _, ⟨a, xs, e, q, r⟩ => ⟨a, xs, e, s.rd q, r⟩
  | .dicT ds, _, ⟨a, xs, e, q, r⟩ => ⟨a, xs, e, s.rd q, r⟩
  | .non, _, h => h
  | .bl _, _, h => h
  | .int _, _, h => h
  | .str _, _, h => h
  | .ty _, _, h => h
  | .ins _ _, _, h => h
  | .cel _, _, h => h
def deref (s : S) : D → D
  | .cel n => match s.cells[n]? with
    | some (.lst ds) => .lst ds
    | some (.dK ds) => .dicK ds
    | some (.dT ds) => .dicT ds
    | _ => .cel n
  | d => d
theorem PRep.deref {c : Ct} {B : Bs} {s : S} {σ : L2.St} {H : Hp} {w : Wd} (S : Sim c B s σ H w) {d : D} {x : V} (h : RepW c w d x) : PRep c H w (deref s d) x := by
  cases d with
  | cel n =>
    obtain ⟨a, h1, h2⟩ := id h
    show PRep c H w (match s.cells[n]? with
      | some (.lst ds) => .lst ds
      | some (.dK ds) => .dicK ds
      | some (.dT ds) => .dicT ds
      | _ => .cel n) x
    cases e : s.cells[n]? with
    | none => exact h
    | some cl =>
      obtain ⟨a', k1, k2, k3⟩ := S.co.at_ n cl e
      rw [h1] at k1
      cases k1
      cases cl with
      | lst ds => obtain ⟨xs, q, r⟩ := k3; exact ⟨a, xs, h2, q, r⟩
      | dK ds => obtain ⟨xs, q, r⟩ := k3; exact ⟨a, xs, h2, .inl q, r⟩
      | dT ds => obtain ⟨xs, q, r⟩ := k3; exact ⟨a, xs, h2, .inl q, r⟩
      | ins cn fs => exact h
  | _ => exact PRep.of S.co.sub h
theorem PRepL.deref {c : Ct} {B : Bs} {s : S} {σ : L2.St} {H : Hp} {w : Wd} (S : Sim c B s σ H w) : ∀ {ds : List D} {xs : List V}, RepWL c w ds xs → PRepL c H w (ds.map (deref s)) xs
  | [], _, h => h
  | d :: ds, _, ⟨y, ys, e, h, r⟩ => ⟨y, ys, e, PRep.deref S h, PRepL.deref S r⟩
def peek (s : S) (i : Nat) : Option D := match s.env[i]? with
  | some (some (.val d)) => some (DM.deref s d)
  | some (some (.own ds)) => some (.lst ds)
  | some (some (.ownK ds)) => some (.dicK ds)
  | some (some (.ownT ds)) => some (.dicT ds)
  | _ => none
theorem PRep.peek {c : Ct} {B : Bs} {s : S} {σ : L2.St} {H : Hp} {w : Wd} (S : Sim c B s σ H w) {i : Nat} {d : D} (h : peek s i = some d) : ∃ x, σ[i]? = some (some x) ∧ PRep c H w d x := by
  unfold DM.peek at h
  cases e : s.env[i]? with
  | none => rw [e] at h; cases h
  | some o =>
    rw [e] at h
    cases o with
    | none => cases h
    | some t =>
      obtain ⟨x, hx, k⟩ := S.sl i t e
      refine ⟨x, hx, ?_⟩
      cases t with
      | val d' => cases h; exact PRep.deref S k
      | own ds => cases h; obtain ⟨a, xs, e1, _, e2, r⟩ := k; exact ⟨a, xs, e1, e2, r⟩
      | ownK ds => cases h; obtain ⟨a, xs, e1, _, e2, r⟩ := k; exact ⟨a, xs, e1, .inl e2, r⟩
      | ownT ds => cases h; obtain ⟨a, xs, e1, _, e2, r⟩ := k; exact ⟨a, xs, e1, .inl e2, r⟩
      | exn _ _ => cases h
      | ownI _ _ => cases h
def mVar (i : Nat) : M D := fun s => match s.env[i]? with
  | some (some (.val d)) => .ok d s
  | some (some (.own ds)) => .ok (.lst ds) ⟨s.env.set i (some (.val (.lst ds))), s.cells⟩
  | some (some (.ownK ds)) => .ok (.dicK ds) ⟨s.env.set i (some (.val (.dicK ds))), s.cells⟩
  | some (some (.ownT ds)) => .ok (.dicT ds) ⟨s.env.set i (some (.val (.dicT ds))), s.cells⟩
  | _ => .bad
section
variable {X : Cx} {W : WX}
theorem de_of {e : Expr} {m : M D} {t : TE} (h : PE X e t) (k : ∀ B s σ H w Q, Sim (XC X) B s σ H w → Post (XC X) B W (RepW (XC X)) (m s) σ w Q → t σ H Q) : DE X W e m := ⟨t, h, k⟩
theorem de_var (i : Nat) {x : Str} {pos : Pos} (hN : X.N[i]? = some x := by rfl) (hv : Vis X.env.scope x := by first | exact Or.inl rfl | exact Or.inr (Or.inl rfl) | exact Or.inr (Or.inr rfl))
    (hd : (x == ("__debug__" : Str)) = false := by decide) (hcd : (x == ("__classdict__" : Str)) = false := by decide) : DE X W (.Name x pos) (mVar i) := by
  refine de_of (pe_var hN hv hd hcd) fun B s σ H w Q S h => ?_
  unfold mVar at h
  cases e : s.env[i]? with
  | none => rw [e] at h; exact h.elim
  | some o =>
    rw [e] at h
    cases o with
    | none => exact h.elim
    | some t =>
      obtain ⟨x, hx, k⟩ := S.sl i t e
      cases t with
      | val d => exact ⟨x, hx, h x H w (Wd.le.refl w) S k⟩
      | own ds =>
        obtain ⟨a, xs, e1, ht, e2, r⟩ := k
        have r2 : RepW (XC X) ⟨upd w.F a (.lst xs), w.m, fun b => if b = a then none else w.T b⟩ (.lst ds) x :=
          ⟨a, xs, e1, upd_same, RepL.mono (sub_upd (S.co.tg a _ ht).1) (List.prefix_refl _) _ _ r⟩
        obtain ⟨l, S2⟩ := S.freezeSlot hx ht e2 r2
        exact ⟨x, hx, h x H _ l S2 r2⟩
      | ownK ds =>
        obtain ⟨a, xs, e1, ht, e2, r⟩ := k
        have r2 : RepW (XC X) ⟨upd w.F a (.dK xs), w.m, fun b => if b = a then none else w.T b⟩ (.dicK ds) x :=
          ⟨a, xs, e1, .inl upd_same, RepK.mono (sub_upd (S.co.tg a _ ht).1) (List.prefix_refl _) _ _ r⟩
        obtain ⟨l, S2⟩ := S.freezeSlot hx ht e2 r2
        exact ⟨x, hx, h x H _ l S2 r2⟩
      | ownT ds =>
        obtain ⟨a, xs, e1, ht, e2, r⟩ := k
        have r2 : RepW (XC X) ⟨upd w.F a (.dT xs), w.m, fun b => if b = a then none else w.T b⟩ (.dicT ds) x :=
          ⟨a, xs, e1, .inl upd_same, RepT.mono (sub_upd (S.co.tg a _ ht).1) (List.prefix_refl _) _ _ r⟩
        obtain ⟨l, S2⟩ := S.freezeSlot hx ht e2 r2
        exact ⟨x, hx, h x H _ l S2 r2⟩
      | exn _ _ => exact h.elim
      | ownI _ _ => exact h.elim
theorem de_int {i j pos} : DE X W (.Constant (.int i) j pos) (ret (.int i)) := de_of pe_int fun _ _ _ H w Q S h => post_ret h (Wd.le.refl w) S rfl
theorem de_bl {b j pos} : DE X W (.Constant (.bool b) j pos) (ret (.bl b)) := de_of pe_bl fun _ _ _ H w Q S h => post_ret h (Wd.le.refl w) S rfl
theorem de_non {j pos} : DE X W (.Constant .none j pos) (ret .non) := de_of pe_non fun _ _ _ H w Q S h => post_ret h (Wd.le.refl w) S rfl
theorem de_str {x j pos} : DE X W (.Constant (.str x) j pos) (ret (.str x)) := de_of pe_str fun _ _ _ H w Q S h => post_ret h (Wd.le.refl w) S rfl
theorem de_gint {x : Str} {i : Int} {pos : Pos} (hm : ∃ t, X.mg x = some (.int i t)) (hg : Gl X x := by rfl) (hd : (x == ("__debug__" : Str)) = false := by decide) : DE X W (.Name x pos) (ret (.int i)) := by
  obtain ⟨t, hm⟩ := hm
  exact de_of (pe_glob (v := .int i) hg hm ⟨t, rfl⟩ hd) fun _ _ _ H w Q S h => post_ret h (Wd.le.refl w) S rfl
theorem de_gstr {x z : Str} {pos : Pos} (hm : ∃ t, X.mg x = some (.str z t)) (hg : Gl X x := by rfl) (hd : (x == ("__debug__" : Str)) = false := by decide) : DE X W (.Name x pos) (ret (.str z)) := by
  obtain ⟨t, hm⟩ := hm
  exact de_of (pe_glob (v := .str z) hg hm ⟨t, rfl⟩ hd) fun _ _ _ H w Q S h => post_ret h (Wd.le.refl w) S rfl
def mNil : M (List D) := ret []
def mCons (m : M D) (r : M (List D)) : M (List D) := bnd m fun d => bnd r fun ds => ret (d :: ds)
theorem da_nil : DA X W [] mNil := ⟨tNil, pa_nil, fun _ _ _ H w Q S h => post_ret h (Wd.le.refl w) S rfl⟩
theorem da_cons {e : Expr} {es : List Expr} {m : M D} {r : M (List D)} (h : DE X W e m) (hr : DA X W es r) (hs : starEach (e :: es) X.env = (false, eval e X.env) :: starEach es X.env := by rfl) : DA X W (e :: es) (mCons m r) := by
  obtain ⟨t, ht, kt⟩ := h
  obtain ⟨u, hu, ku⟩ := hr
  refine ⟨tCons t u, pa_cons ht hu hs, fun B s σ H w Q S p => ?_⟩
  refine kt B s σ H w _ S (post_bnd p fun d s1 x H1 w1 _ l1 S1 r1 p1 => ?_)
  refine ku B s1 σ H1 w1 _ S1 (post_bnd p1 fun ds s2 xs H2 w2 _ l2 S2 r2 p2 => ?_)
  exact post_ret p2 (Wd.le.refl w2) S2 (RepL.cons (RepW.le l2 r1) r2)
def small (ds : List D) : Bool := Nat.ble ds.length 1000000
theorem small_line {ds : List D} {n : Nat} (h : small ds = true) (e : ds.length = n) : n ≤ sizeLine := by
  have := Nat.le_of_ble_eq_true h
  rw [← e]
  exact Nat.le_trans this (by decide)
def mTup (m : M (List D)) : M D := bnd m fun ds => if small ds then ret (.tup ds) else bad
theorem de_tup {es : List Expr} {m : M (List D)} {x1} {pos : Pos} (h : DA X W es m) : DE X W (.Tuple es x1 pos) (mTup m) := by
  obtain ⟨t, ht, kt⟩ := h
  refine de_of (pe_tup ht) fun B s σ H w Q S p => kt B s σ H w _ S (post_bnd p fun ds s1 xs H1 w1 _ l1 S1 r1 p1 => ?_)
  split at p1
  · rename_i hz
    refine ⟨small_line hz r1.length, fun a ha => ?_⟩
    have F0 := S1.free_F ha
    exact post_ret p1 (le_newF F0) (S1.newF ha) ⟨a, xs, rfl, SqT.of upd_same, RepWL.le (le_newF F0) r1⟩
  · exact p1.elim
def mLst (m : M (List D)) : M (List D) := bnd m fun ds => if small ds then ret ds else bad
def postF_bnd {c : Ct} {B : Bs} {α β : Type} {R : Wd → α → β → Prop} {w : Wd} {σ : L2.St} {m : M α} {f : α → M (List D)} {s : S} {Q : V → Hp → Prop} {Q1 : β → Hp → Prop} (h : PostF c B W (bnd m f s) σ w Q)
    (k : ∀ a s1 x H1 w1, m s = .ok a s1 → w.le w1 → Sim c B s1 σ H1 w1 → R w1 a x → PostF c B W (f a s1) σ w1 Q → Q1 x H1) : Post c B W R (m s) σ w Q1 := by
  have up : ∀ {r : Res (List D)} {w w' : Wd}, PostF c B W r σ w Q → w.le w' → PostF c B W r σ w' Q := fun {r w w'} h l => by
    cases r with
    | ok a s => exact fun x H' w2 l2 S q => h x H' w2 (l.trans l2) S q
    | exc e s => exact PostX.up h l
    | bad => exact h
  unfold bnd at h
  cases e : m s with
  | ok a s1 =>
    rw [e] at h
    exact fun x H1 w1 l S1 r => k a s1 x H1 w1 e l S1 r (up h l)
  | exc ex s1 => rw [e] at h; exact h
  | bad => rw [e] at h; exact h
theorem df_lst {es : List Expr} {m : M (List D)} {pos : Pos} (h : DA X W es m) : DF X W (.List es pos) (mLst m) := by
  obtain ⟨t, ht, kt⟩ := h
  refine ⟨_, pe_lst ht, fun B s σ H w Q S p => kt B s σ H w _ S (postF_bnd p fun ds s1 xs H1 w1 _ l1 S1 r1 p1 => ?_)⟩
  split at p1
  · rename_i hz
    refine ⟨small_line hz r1.length, fun a ha => ?_⟩
    exact p1 (.ref a) _ w1 (Wd.le.refl w1) (S1.new ha) ⟨a, xs, rfl, upd_same, S1.free_F ha, S1.free_T ha, r1⟩
  · exact p1.elim
def mL (m : M (List D)) : M D := bnd m fun ds => ret (.lst ds)
theorem RFr.frozen {c : Ct} {B : Bs} {s : S} {σ : L2.St} {H : Hp} {w : Wd} {ds : List D} {x : V} (S : Sim c B s σ H w) (r : RFr c H w ds x) : ∃ w', w.le w' ∧ Sim c B s σ H w' ∧ RepW c w' (.lst ds) x := by
  obtain ⟨a, xs, e, h1, h2, h3, r⟩ := r
  exact ⟨_, le_newF h2, S.freeze h1 h2 h3, a, xs, e, upd_same, RepWL.le (le_newF h2) r⟩
theorem post_of_F {c : Ct} {B : Bs} {m : M (List D)} {s : S} {σ : L2.St} {w : Wd} {Q : V → Hp → Prop} (h : Post c B W (RepW c) (mL m s) σ w Q) : PostF c B W (m s) σ w Q := by
  unfold mL bnd at h
  cases e : m s with
  | ok ds s1 =>
    rw [e] at h
    intro x H' w' l S1 r
    obtain ⟨w2, l2, S2, r2⟩ := r.frozen S1
    exact h x H' w2 (l.trans l2) S2 r2
  | exc ex s1 => rw [e] at h; exact h
  | bad => rw [e] at h; exact h
theorem DF.de {e : Expr} {m : M (List D)} (h : DF X W e m) : DE X W e (mL m) := by
  obtain ⟨t, ht, kt⟩ := h
  exact de_of ht fun B s σ H w Q S p => kt B s σ H w Q S (post_of_F p)
end
end DM
set_option Elab.async false
set_option linter.all false
set_option maxRecDepth 100000
set_option maxHeartbeats 400000
namespace DM
open PySem PySem.Spec PyProof.Rows L2
mutual
def toPy : D → Option PyData
  | .non => some .none
  | .bl b => some (.bool b)
  | .int i => some (.int i)
  | .str x => some (.str x)
  | .lst ds => (toPyL ds).map .list
  | .tup ds => (toPyL ds).map .tuple
  | _ => none
def toPyL : List D → Option (List PyData)
  | [] => some []
  | d :: ds => match toPy d, toPyL ds with
    | some p, some q => some (p :: q)
    | _, _ => none
end
section
variable {c : Ct} {F H : Hp} {m : List Addr} {w : Wd}
theorem sq_of_rd {K : PySem.W.Frag} {a : Addr} {xs : List V} (h : H a = some (.lst xs)) : SqL K H a xs := .inl (.inl h)
theorem toPy_lst (ds : List D) : toPy (.lst ds) = (toPyL ds).map .list := by simp only [toPy]
theorem toPy_tup (ds : List D) : toPy (.tup ds) = (toPyL ds).map .tuple := by simp only [toPy]
theorem toPyL_cons (d : D) (ds : List D) : toPyL (d :: ds) = (match toPy d, toPyL ds with
    | some p, some q => some (p :: q)
    | _, _ => none) := by simp only [toPyL]
theorem toPyL_nil : toPyL [] = some [] := by simp only [toPyL]
mutual
theorem dp_of (s : Sub F H) : ∀ (d : D) (x : V) (p : PyData), Rep c F m d x → toPy d = some p → Dp c.K H x p
  | .non, x, p, h, e => by
    simp only [toPy] at e
    rw [← Option.some.inj e, show x = V.non from h]; exact .non
  | .bl b, x, p, h, e => by
    simp only [toPy] at e
    rw [← Option.some.inj e, show x = V.bl b from h]; exact .bl b
  | .int i, x, p, h, e => by
    simp only [toPy] at e
    rw [← Option.some.inj e, show x = V.int i from h]; exact .int i
  | .str y, x, p, h, e => by
    simp only [toPy] at e
    rw [← Option.some.inj e, show x = V.str y from h]; exact .str y
  | .lst ds, x, p, h, e => by
    rw [toPy_lst] at e
    obtain ⟨a, xs, e1, h1, r⟩ := h
    obtain ⟨q, h2, h3⟩ := Option.map_eq_some_iff.mp e
    rw [e1, ← h3]
    exact .lst (sq_of_rd (s.at h1 rfl)) (dpL_of s ds xs q r h2)
  | .tup ds, x, p, h, e => by
    rw [toPy_tup] at e
    obtain ⟨a, xs, e1, h1, r⟩ := h
    obtain ⟨q, h2, h3⟩ := Option.map_eq_some_iff.mp e
    rw [e1, ← h3]
    exact .tup (s.sqT h1) (dpL_of s ds xs q r h2)
  | .ty _, _, _, _, e => by simp only [toPy] at e; exact nomatch e
  | .dicK _, _, _, _, e => by simp only [toPy] at e; exact nomatch e
  | .dicT _, _, _, _, e => by simp only [toPy] at e; exact nomatch e
  | .ins _ _, _, _, _, e => by simp only [toPy] at e; exact nomatch e
  | .cel _, _, _, _, e => by simp only [toPy] at e; exact nomatch e
  | .scr _, _, _, _, e => by simp only [toPy] at e; exact nomatch e
theorem dpL_of (s : Sub F H) : ∀ (ds : List D) (xs : List V) (p : List PyData), RepL c F m ds xs → toPyL ds = some p → DpAll c.K H xs p
  | [], xs, p, h, e => by
    rw [toPyL_nil] at e
    rw [← Option.some.inj e, show xs = [] from h]; exact .nil
  | d :: ds, xs, p, h, e => by
    obtain ⟨y, ys, e1, h, r⟩ := h
    rw [e1]
    rw [toPyL_cons] at e
    cases h1 : toPy d with
    | none => rw [h1] at e; exact nomatch e
    | some p1 =>
      cases h2 : toPyL ds with
      | none => rw [h1, h2] at e; exact nomatch e
      | some q => rw [h1, h2] at e; rw [← Option.some.inj e]; exact .cons (dp_of s d y p1 h h1) (dpL_of s ds ys q r h2)
end
theorem dp_peek (s : Sub w.F H) {d : D} {x : V} {p : PyData} (h : PRep c H w d x) (e : toPy d = some p) : Dp c.K H x p := by
  cases d with
  | lst ds =>
    rw [toPy_lst] at e
    obtain ⟨a, xs, e1, h1, r⟩ := h
    obtain ⟨q, h2, h3⟩ := Option.map_eq_some_iff.mp e
    rw [e1, ← h3]
    exact .lst (sq_of_rd h1) (dpL_of s ds xs q r h2)
  | dicK ds => simp only [toPy] at e; exact nomatch e
  | dicT ds => simp only [toPy] at e; exact nomatch e
  | scr b => simp only [toPy] at e; exact nomatch e
  | _ => exact dp_of s _ x p h e
end
def flatD : D → Bool
  | .non => true
  | .bl _ => true
  | .int _ => true
  | .str _ => true
  | _ => false
def toV : D → V
  | .non => .non
  | .bl b => .bl b
  | .int i => .int i
  | .str x => .str x
  | _ => .non
theorem rep_flat {c : Ct} {F : Hp} {m : List Addr} {d : D} {x : V} (h : Rep c F m d x) (f : flatD d = true) : x = toV d := by
  cases d <;> first | exact h | cases f
theorem flat_toV {d : D} (f : flatD d = true) : flatV (toV d) = true := by
  cases d <;> first | rfl | cases f
theorem repL_flat {c : Ct} {F : Hp} {m : List Addr} : ∀ {ds : List D} {xs : List V}, RepL c F m ds xs → ds.all flatD = true → xs = ds.map toV
  | [], _, h, _ => h
  | d :: ds, _, ⟨y, ys, e, h, r⟩, f => by
    rw [List.all_cons, Bool.and_eq_true] at f
    rw [e, rep_flat h f.1, repL_flat r f.2, List.map_cons]
theorem all_flat : ∀ {ds : List D}, ds.all flatD = true → (ds.map toV).all flatV = true
  | [], _ => rfl
  | d :: ds, f => by
    rw [List.all_cons, Bool.and_eq_true] at f
    rw [List.map_cons, List.all_cons, flat_toV f.1, all_flat f.2] <;> rfl
abbrev O2 := D → D → Option D
def OpS (X : Cx) (f : Value → Value → Sem Value) (o : O2) : Prop :=
  ∃ r, OpR X f r ∧ ∀ B s σ H w a b d x y Q, Sim (XC X) B s σ H w → PRep (XC X) H w a x → PRep (XC X) H w b y → o a b = some d →
    (∀ z H' w', w.le w' → Sim (XC X) B s σ H' w' → RepW (XC X) w' d z → Q z H') → r x y H Q
def orO (o o' : O2) : O2 := fun a b => match o a b with
  | some d => some d
  | none => o' a b
section
variable {X : Cx} {f : Value → Value → Sem Value} {o o' : O2}
theorem OpS.or (h : OpS X f o) (h' : OpS X f o') : OpS X f (orO o o') := by
  obtain ⟨r, hr, k⟩ := h
  obtain ⟨r', hr', k'⟩ := h'
  refine ⟨_, hr.or hr', fun B s σ H w a b d x y Q S ra rb e q => ?_⟩
  unfold orO at e
  cases e1 : o a b with
  | some d1 => rw [e1] at e; cases e; exact .inl (k B s σ H w a b d x y Q S ra rb e1 q)
  | none => rw [e1] at e; exact .inr (k' B s σ H w a b d x y Q S ra rb e q)
def oI (g : Int → Int → Option D) : O2 := fun a b => match a, b with
  | .int i, .int j => g i j
  | _, _ => none
theorem opS_I {C : Int → Int → Prop} {g : Int → Int → V} {k : Int → Int → Option D} (h : OpR X f (rI C g)) (hk : ∀ i j d, k i j = some d → C i j ∧ ∀ c F m, Rep c F m d (g i j)) : OpS X f (oI k) := by
  refine ⟨_, h, fun B s σ H w a b d x y Q S ra rb e q => ?_⟩
  cases a <;> try (cases e)
  rename_i i
  cases b <;> try (cases e)
  rename_i j
  obtain ⟨h1, h2⟩ := hk i j d e
  exact ⟨i, j, ra, rb, h1, q _ H w (Wd.le.refl w) S (h2 _ _ _)⟩
theorem opS_I0 {g : Int → Int → V} {k : Int → Int → Option D} (h : OpR X f (rI0 g)) (hk : ∀ i j d, k i j = some d → ∀ c F m, Rep c F m d (g i j)) : OpS X f (oI k) := by
  refine ⟨_, h, fun B s σ H w a b d x y Q S ra rb e q => ?_⟩
  cases a <;> try (cases e)
  rename_i i
  cases b <;> try (cases e)
  rename_i j
  exact ⟨i, j, ra, rb, q _ H w (Wd.le.refl w) S (hk i j d e _ _ _)⟩
def oAddI : O2 := oI fun i j => some (.int (i + j))
def oSub : O2 := oI fun i j => some (.int (i - j))
def oMulI : O2 := oI fun i j => if Nat.blt (i.natAbs.log2 + j.natAbs.log2) 1000000 then some (.int (i * j)) else none
def oFdiv : O2 := oI fun i j => if (decide (0 < j) && Nat.blt j.natAbs.log2 9000) then some (.int (i / j)) else none
def oMod : O2 := oI fun i j => if decide (0 < j) then some (.int (i % j)) else none
def oPow : O2 := oI fun i j => if (decide (0 ≤ j) && decide (j ≤ 1000000) && decide (i.natAbs < 2 ^ 64)) then some (.int (i ^ j.toNat)) else none
def oLt : O2 := oI fun i j => some (.bl (decide (i < j)))
def oLe : O2 := oI fun i j => some (.bl (decide (i ≤ j)))
def oGt : O2 := oI fun i j => some (.bl (decide (j < i)))
def oGe : O2 := oI fun i j => some (.bl (decide (j ≤ i)))
theorem opS_addI : OpS X (binaryOp .Add) oAddI := opS_I0 op_add fun _ _ _ e _ _ _ => by cases e; rfl
theorem opS_sub : OpS X (binaryOp .Sub) oSub := opS_I0 op_sub fun _ _ _ e _ _ _ => by cases e; rfl
theorem opS_mulI : OpS X (binaryOp .Mult) oMulI := opS_I op_mulW fun i j d e => by
  split at e
  · rename_i h
    cases e
    exact ⟨Nat.le_of_ble_eq_true h, fun _ _ _ => rfl⟩
  · cases e
theorem opS_fdiv : OpS X (binaryOp .FloorDiv) oFdiv := opS_I op_fdivW fun i j d e => by
  split at e
  · rename_i h
    cases e
    rw [Bool.and_eq_true] at h
    exact ⟨⟨of_decide_eq_true h.1, Nat.le_of_ble_eq_true h.2⟩, fun _ _ _ => rfl⟩
  · cases e
theorem opS_mod : OpS X (binaryOp .Mod) oMod := opS_I op_mod fun i j d e => by
  split at e
  · rename_i h
    cases e
    exact ⟨of_decide_eq_true h, fun _ _ _ => rfl⟩
  · cases e
theorem opS_pow : OpS X (binaryOp .Pow) oPow := opS_I op_pow fun i j d e => by
  split at e
  · rename_i h
    cases e
    rw [Bool.and_eq_true, Bool.and_eq_true] at h
    exact ⟨⟨of_decide_eq_true h.1.1, of_decide_eq_true h.1.2, of_decide_eq_true h.2⟩, fun _ _ _ => rfl⟩
  · cases e
theorem opS_lt : OpS X (compareOp .Lt) oLt := opS_I0 op_lt fun _ _ _ e _ _ _ => by cases e; rfl
theorem opS_le : OpS X (compareOp .LtE) oLe := opS_I0 op_le fun _ _ _ e _ _ _ => by cases e; rfl
theorem opS_gt : OpS X (compareOp .Gt) oGt := opS_I0 op_gt fun _ _ _ e _ _ _ => by cases e; rfl
theorem opS_ge : OpS X (compareOp .GtE) oGe := opS_I0 op_ge fun _ _ _ e _ _ _ => by cases e; rfl
def oAddS : O2 := fun a b => match a, b with
  | .str x, .str y => if Nat.ble (x.length + y.length) 1000000 then some (.str (x ++ y)) else none
  | _, _ => none
theorem ble_line {n : Nat} (h : Nat.ble n 1000000 = true) : n ≤ sizeLine := Nat.le_trans (Nat.le_of_ble_eq_true h) (by decide)
theorem opS_addS : OpS X (binaryOp .Add) oAddS := by
  refine ⟨_, op_add_str, fun B s σ H w a b d x y Q S ra rb e q => ?_⟩
  cases a <;> try (cases e)
  rename_i i
  cases b <;> try (cases e)
  rename_i j
  have e' : (if Nat.ble (i.length + j.length) 1000000 then some (D.str (i ++ j)) else none) = some d := e
  split at e'
  · rename_i hz
    cases e'
    exact ⟨i, j, ra, rb, ble_line hz, q _ H w (Wd.le.refl w) S rfl⟩
  · cases e'
def oAddT : O2 := fun a b => match a, b with
  | .tup xs, .tup ys => if small (xs ++ ys) then some (.tup (xs ++ ys)) else none
  | _, _ => none
theorem opS_addT : OpS X (binaryOp .Add) oAddT := by
  refine ⟨_, op_catA, fun B s σ H w a b d x y Q S ra rb e q => ?_⟩
  cases a <;> try (cases e)
  rename_i ds
  cases b <;> try (cases e)
  rename_i es
  have e' : (if small (ds ++ es) then some (D.tup (ds ++ es)) else none) = some d := e
  split at e'
  · rename_i hz
    cases e'
    obtain ⟨p, xs, e1, h1, r1⟩ := ra
    obtain ⟨p2, ys, e2, h2, r2⟩ := rb
    have hl := r1.length
    have hl2 := r2.length
    have hn : ∀ p' : Addr, H p' = none → Q (.ref p') (upd H p' (.tup (xs ++ ys))) := fun p' hp => by
      have F0 := S.free_F hp
      exact q _ _ _ (le_newF F0) (S.newF hp) ⟨p', _, rfl, SqT.of upd_same, RepWL.le (le_newF F0) (RepL.append r1 r2)⟩
    refine ⟨p, p2, xs, ys, e1, e2, S.co.sub.sqT h1, S.co.sub.sqT h2, small_line hz (by rw [List.length_append, hl, hl2]), fun h => ?_, fun h h' => ?_, fun _ _ => hn⟩
    · subst h
      have hd : ds = [] := List.eq_nil_of_length_eq_zero hl
      subst hd
      exact q _ H w (Wd.le.refl w) S ⟨p2, ys, rfl, h2, r2⟩
    · subst h'
      have hd : es = [] := List.eq_nil_of_length_eq_zero hl2
      subst hd
      exact q _ H w (Wd.le.refl w) S ⟨p, xs, rfl, h1, by rw [List.append_nil]; exact r1⟩
  · cases e'
end
end DM
set_option Elab.async false
set_option linter.all false
set_option maxRecDepth 100000
set_option maxHeartbeats 400000
namespace DM
open PySem PySem.Spec PyProof.Rows L2
section
variable {X : Cx}
def oAddL : O2 := fun a b => match a, b with
  | .lst xs, .lst ys => if small (xs ++ ys) then some (.lst (xs ++ ys)) else none
  | _, _ => none
theorem opS_addL : OpS X (binaryOp .Add) oAddL := by
  refine ⟨_, op_cat, fun B s σ H w a b d x y Q S ra rb e q => ?_⟩
  cases a <;> try (cases e)
  rename_i ds
  cases b <;> try (cases e)
  rename_i es
  have e' : (if small (ds ++ es) then some (D.lst (ds ++ es)) else none) = some d := e
  split at e'
  · rename_i hz
    cases e'
    obtain ⟨p, xs, e1, h1, r1⟩ := ra
    obtain ⟨p2, ys, e2, h2, r2⟩ := rb
    refine ⟨p, p2, xs, ys, e1, e2, h1, h2, small_line hz (by rw [List.length_append, r1.length, r2.length]), fun p' hp => ?_⟩
    have F0 := S.free_F hp
    exact q _ _ _ (le_newF F0) (S.newF hp) ⟨p', _, rfl, upd_same, RepWL.le (le_newF F0) (RepL.append r1 r2)⟩
  · cases e'
theorem RepL.replicate {c : Ct} {F : Hp} {m : List Addr} {ds : List D} {xs : List V} (r : RepL c F m ds xs) : ∀ k : Nat, RepL c F m (List.replicate k ds).flatten (List.replicate k xs).flatten
  | 0 => rfl
  | k + 1 => by
    rw [List.replicate_succ, List.replicate_succ, List.flatten_cons, List.flatten_cons]
    exact RepL.append r (RepL.replicate r k)
def oRepL : O2 := fun a b => match a, b with
  | .lst xs, .int k => if (decide (-(2 ^ 63) ≤ k) && decide (k < 2 ^ 63) && Nat.ble (xs.length * k.toNat) 1000000) then some (.lst (List.replicate k.toNat xs).flatten) else none
  | _, _ => none
theorem opS_repL : OpS X (binaryOp .Mult) oRepL := by
  refine ⟨_, op_rep, fun B s σ H w a b d x y Q S ra rb e q => ?_⟩
  cases a <;> try (cases e)
  rename_i ds
  cases b <;> try (cases e)
  rename_i k
  have e' : (if (decide (-(2 ^ 63) ≤ k) && decide (k < 2 ^ 63) && Nat.ble (ds.length * k.toNat) 1000000) then some (D.lst (List.replicate k.toNat ds).flatten) else none) = some d := e
  split at e'
  · rename_i hz
    cases e'
    rw [Bool.and_eq_true, Bool.and_eq_true] at hz
    obtain ⟨p, xs, e1, h1, r1⟩ := ra
    refine ⟨p, k, xs, e1, rb, h1, of_decide_eq_true hz.1.1, of_decide_eq_true hz.1.2, by rw [← r1.length]; exact ble_line hz.2, fun p' hp => ?_⟩
    have F0 := S.free_F hp
    exact q _ _ _ (le_newF F0) (S.newF hp) ⟨p', _, rfl, upd_same, RepWL.le (le_newF F0) (RepL.replicate r1 _)⟩
  · cases e'
def oAdd : O2 := orO oAddI (orO oAddS (orO oAddL oAddT))
theorem opS_add : OpS X (binaryOp .Add) oAdd := opS_addI.or (opS_addS.or (opS_addL.or opS_addT))
def oMul : O2 := orO oMulI oRepL
theorem opS_mul : OpS X (binaryOp .Mult) oMul := opS_mulI.or opS_repL
def oEqD (neg : Bool) : O2 := fun a b => match toPy a, toPy b with
  | some p, some q => if (SeqAt.shaped p && SeqAt.shaped q) then some (.bl (if neg then !PyData.eqv p q else PyData.eqv p q)) else none
  | _, _ => none
theorem oEqD_some {neg : Bool} {a b d : D} (e : oEqD neg a b = some d) : ∃ p q, toPy a = some p ∧ toPy b = some q ∧ SeqAt.shaped p = true ∧ SeqAt.shaped q = true ∧ d = .bl (if neg then !PyData.eqv p q else PyData.eqv p q) := by
  unfold oEqD at e
  cases h1 : toPy a with
  | none => rw [h1] at e; exact nomatch e
  | some p =>
    cases h2 : toPy b with
    | none => rw [h1, h2] at e; exact nomatch e
    | some q =>
      rw [h1, h2] at e
      have e' : (if (SeqAt.shaped p && SeqAt.shaped q) then some (D.bl (if neg then !PyData.eqv p q else PyData.eqv p q)) else none) = some d := e
      split at e'
      · rename_i hs
        rw [Bool.and_eq_true] at hs
        exact ⟨p, q, rfl, rfl, hs.1, hs.2, (Option.some.inj e').symm⟩
      · exact nomatch e'
theorem opS_eqD (hu : X.A.units + 64 < cLine) : OpS X (compareOp .Eq) (oEqD false) := by
  refine ⟨_, op_eqD hu, fun B s σ H w a b d x y Q S ra rb e q => ?_⟩
  obtain ⟨p, p', h1, h2, s1, s2, rfl⟩ := oEqD_some e
  exact ⟨p, p', dp_peek S.co.sub ra h1, dp_peek S.co.sub rb h2, s1, s2, q _ H w (Wd.le.refl w) S rfl⟩
theorem opS_neD (hu : X.A.units + 64 < cLine) : OpS X (compareOp .NotEq) (oEqD true) := by
  refine ⟨_, op_neD hu, fun B s σ H w a b d x y Q S ra rb e q => ?_⟩
  obtain ⟨p, p', h1, h2, s1, s2, rfl⟩ := oEqD_some e
  exact ⟨p, p', dp_peek S.co.sub ra h1, dp_peek S.co.sub rb h2, s1, s2, q _ H w (Wd.le.refl w) S rfl⟩
def isNonD : D → Bool
  | .non => true
  | _ => false
theorem rep_non {c : Ct} {H : Hp} {w : Wd} {d : D} {x : V} (h : PRep c H w d x) : decide (x = .non) = isNonD d := by
  cases d with
  | non => rw [show x = V.non from h] <;> rfl
  | bl b => rw [show x = V.bl b from h] <;> rfl
  | int b => rw [show x = V.int b from h] <;> rfl
  | str b => rw [show x = V.str b from h] <;> rfl
  | ty b => rw [show x = V.ty b from h] <;> rfl
  | tup ds => obtain ⟨a, xs, e, _⟩ := h; rw [e] <;> rfl
  | lst ds => obtain ⟨a, xs, e, _⟩ := h; rw [e] <;> rfl
  | dicK ds => obtain ⟨a, xs, e, _⟩ := h; rw [e] <;> rfl
  | dicT ds => obtain ⟨a, xs, e, _⟩ := h; rw [e] <;> rfl
  | ins cn fs => obtain ⟨a, C, dx, xs, e, _⟩ := h; rw [e] <;> rfl
  | cel n => obtain ⟨a, _, e⟩ := h; rw [e] <;> rfl
  | scr ns => obtain ⟨a, e, _⟩ := h; rw [e] <;> rfl
def oIsN (neg : Bool) : O2 := fun a b => match b with
  | .non => some (.bl (if neg then !isNonD a else isNonD a))
  | _ => none
theorem opS_isN : OpS X (compareOp .Is) (oIsN false) := by
  refine ⟨_, op_isN, fun B s σ H w a b d x y Q S ra rb e q => ?_⟩
  cases b <;> try (cases e)
  exact ⟨rb, q _ H w (Wd.le.refl w) S (by rw [rep_non ra]; exact rfl)⟩
theorem opS_notN : OpS X (compareOp .IsNot) (oIsN true) := by
  refine ⟨_, op_notN, fun B s σ H w a b d x y Q S ra rb e q => ?_⟩
  cases b <;> try (cases e)
  exact ⟨rb, q _ H w (Wd.le.refl w) S (by rw [rep_non ra]; exact rfl)⟩
def itemsD : D → Option (List D)
  | .lst ds => some ds
  | .tup ds => some ds
  | _ => none
def oInF (neg : Bool) : O2 := fun a b => match itemsD b with
  | some ds => if (flatD a && ds.all flatD) then some (.bl (if neg then !inV (toV a) (ds.map toV) else inV (toV a) (ds.map toV))) else none
  | none => none
theorem items_sq {c : Ct} {H : Hp} {w : Wd} (s : Sub w.F H) {d : D} {ds : List D} {x : V} (h : PRep c H w d x) (e : itemsD d = some ds) : ∃ a xs, x = .ref a ∧ (SqL c.K H a xs ∨ SqT c.K H a xs) ∧ RepWL c w ds xs := by
  cases d <;> try (cases e)
  · obtain ⟨a, xs, e1, h1, r⟩ := h; exact ⟨a, xs, e1, .inr (s.sqT h1), r⟩
  · obtain ⟨a, xs, e1, h1, r⟩ := h; exact ⟨a, xs, e1, .inl (SqL.of h1), r⟩
theorem prep_flat {c : Ct} {H : Hp} {w : Wd} {d : D} {x : V} (h : PRep c H w d x) (f : flatD d = true) : x = toV d := by
  cases d <;> first | exact h | cases f
theorem oInF_some {neg : Bool} {a b d : D} (e : oInF neg a b = some d) : ∃ ds, itemsD b = some ds ∧ flatD a = true ∧ ds.all flatD = true ∧ d = .bl (if neg then !inV (toV a) (ds.map toV) else inV (toV a) (ds.map toV)) := by
  unfold oInF at e
  cases h : itemsD b with
  | none => rw [h] at e; exact nomatch e
  | some ds =>
    rw [h] at e
    have e' : (if (flatD a && ds.all flatD) then some (D.bl (if neg then !inV (toV a) (ds.map toV) else inV (toV a) (ds.map toV))) else none) = some d := e
    split at e'
    · rename_i hs
      rw [Bool.and_eq_true] at hs
      exact ⟨ds, rfl, hs.1, hs.2, (Option.some.inj e').symm⟩
    · exact nomatch e'
theorem opS_inF : OpS X (compareOp .In) (oInF false) := by
  refine ⟨_, op_in_seq, fun B s σ H w a b d x y Q S ra rb e q => ?_⟩
  obtain ⟨ds, h1, fa, fs, rfl⟩ := oInF_some e
  obtain ⟨p, xs, e1, hq, r⟩ := items_sq S.co.sub rb h1
  have ex := prep_flat ra fa
  have exs := repL_flat r fs
  exact ⟨p, xs, e1, hq, by rw [ex]; exact flat_toV fa, by rw [exs]; exact all_flat fs, q _ H w (Wd.le.refl w) S (by rw [ex, exs]; exact rfl)⟩
theorem opS_notInF : OpS X (compareOp .NotIn) (oInF true) := by
  refine ⟨_, op_notIn_seq, fun B s σ H w a b d x y Q S ra rb e q => ?_⟩
  obtain ⟨ds, h1, fa, fs, rfl⟩ := oInF_some e
  obtain ⟨p, xs, e1, hq, r⟩ := items_sq S.co.sub rb h1
  have ex := prep_flat ra fa
  have exs := repL_flat r fs
  exact ⟨p, xs, e1, hq, by rw [ex]; exact flat_toV fa, by rw [exs]; exact all_flat fs, q _ H w (Wd.le.refl w) S (by rw [ex, exs]; exact rfl)⟩
def oInS (neg : Bool) : O2 := fun a b => match a, b with
  | .str ⟨⟨[k]⟩⟩, .str z => some (.bl (if neg then !z.cps.toList.contains k else z.cps.toList.contains k))
  | _, _ => none
theorem oInS_some {neg : Bool} {a b d : D} (e : oInS neg a b = some d) : ∃ k z, a = .str ⟨#[k]⟩ ∧ b = .str z ∧ d = .bl (if neg then !z.cps.toList.contains k else z.cps.toList.contains k) := by
  unfold oInS at e
  split at e
  · rename_i k z
    exact ⟨k, z, rfl, rfl, (Option.some.inj e).symm⟩
  · exact nomatch e
theorem dec_contains (k : Nat) (l : List Nat) : decide (k ∈ l) = l.contains k := by
  rw [List.contains_eq_mem]
theorem opS_inS : OpS X (compareOp .In) (oInS false) := by
  refine ⟨_, op_in_sign, fun B s σ H w a b d x y Q S ra rb e q => ?_⟩
  obtain ⟨k, z, rfl, rfl, rfl⟩ := oInS_some e
  exact ⟨k, z, ra, rb, q _ H w (Wd.le.refl w) S (by rw [dec_contains]; exact rfl)⟩
theorem opS_notInS : OpS X (compareOp .NotIn) (oInS true) := by
  refine ⟨_, op_notIn_sign, fun B s σ H w a b d x y Q S ra rb e q => ?_⟩
  obtain ⟨k, z, rfl, rfl, rfl⟩ := oInS_some e
  exact ⟨k, z, ra, rb, q _ H w (Wd.le.refl w) S (by rw [dec_contains]; exact rfl)⟩
def oInD (neg : Bool) : O2 := fun a b => match toPy a, toPy b with
  | some p, some (.list qs) => if (SeqAt.shaped p && SeqAt.shaped (.list qs)) then some (.bl (if neg then !qs.any fun z => PyData.eqv z p else qs.any fun z => PyData.eqv z p)) else none
  | _, _ => none
theorem oInD_some {neg : Bool} {a b d : D} (e : oInD neg a b = some d) : ∃ p qs, toPy a = some p ∧ toPy b = some (.list qs) ∧ SeqAt.shaped p = true ∧ SeqAt.shaped (.list qs) = true ∧ d = .bl (if neg then !qs.any fun z => PyData.eqv z p else qs.any fun z => PyData.eqv z p) := by
  unfold oInD at e
  split at e
  · rename_i p qs h1 h2
    split at e
    · rename_i hs
      rw [Bool.and_eq_true] at hs
      exact ⟨p, qs, h1, h2, hs.1, hs.2, (Option.some.inj e).symm⟩
    · exact nomatch e
  · exact nomatch e
theorem opS_inD (hu : X.A.units + 65 < cLine) : OpS X (compareOp .In) (oInD false) := by
  refine ⟨_, op_inD hu, fun B s σ H w a b d x y Q S ra rb e q => ?_⟩
  obtain ⟨p, qs, h1, h2, s1, s2, rfl⟩ := oInD_some e
  exact ⟨p, qs, dp_peek S.co.sub ra h1, dp_peek S.co.sub rb h2, s1, s2, q _ H w (Wd.le.refl w) S rfl⟩
theorem opS_notInD (hu : X.A.units + 65 < cLine) : OpS X (compareOp .NotIn) (oInD true) := by
  refine ⟨_, op_notInD hu, fun B s σ H w a b d x y Q S ra rb e q => ?_⟩
  obtain ⟨p, qs, h1, h2, s1, s2, rfl⟩ := oInD_some e
  exact ⟨p, qs, dp_peek S.co.sub ra h1, dp_peek S.co.sub rb h2, s1, s2, q _ H w (Wd.le.refl w) S rfl⟩
def oIn (neg : Bool) : O2 := orO (oInF neg) (orO (oInS neg) (oInD neg))
theorem opS_in (hu : X.A.units + 65 < cLine) : OpS X (compareOp .In) (oIn false) := opS_inF.or (opS_inS.or (opS_inD hu))
theorem opS_notIn (hu : X.A.units + 65 < cLine) : OpS X (compareOp .NotIn) (oIn true) := opS_notInF.or (opS_notInS.or (opS_notInD hu))
end
def fin (o : Option D) : M D := fun s => match o with
  | some d => .ok d s
  | none => .bad
def mOp (o : O2) (ma mb : M D) : M D := bnd ma fun a => bnd mb fun b => fun s => fin (o (deref s a) (deref s b)) s
def mOpN (o : O2) (i : Nat) (mb : M D) : M D := fun s => match peek s i with
  | some _ => bnd mb (fun b => fun s => match peek s i with
    | some a => fin (o a (deref s b)) s
    | none => .bad) s
  | none => .bad
def mOpE (o : O2) (ma : M D) (j : Nat) : M D := bnd ma fun a => fun s => match peek s j with
  | some b => fin (o (deref s a) b) s
  | none => .bad
def mOpB (o : O2) (i j : Nat) : M D := fun s => match peek s i, peek s j with
  | some a, some b => fin (o a b) s
  | _, _ => .bad
section
variable {X : Cx} {W : WX}
theorem post_fin {c : Ct} {B : Bs} {σ : L2.St} {w : Wd} {Q : V → Hp → Prop} {o : Option D} {s : S} (h : Post c B W (RepW c) (fin o s) σ w Q) : ∃ d, o = some d ∧ ∀ z H' w', w.le w' → Sim c B s σ H' w' → RepW c w' d z → Q z H' := by
  unfold fin at h
  cases o with
  | none => exact h.elim
  | some d => exact ⟨d, rfl, h⟩
structure TwoOk (X : Cx) (W : WX) (o : O2) (m : M D) (ta tb : TE) : Prop where
  ok : ∀ (r : R2), (∀ B s σ H w a b d x y Q, Sim (XC X) B s σ H w → PRep (XC X) H w a x → PRep (XC X) H w b y → o a b = some d → (∀ z H' w', w.le w' → Sim (XC X) B s σ H' w' → RepW (XC X) w' d z → Q z H') → r x y H Q) →
    ∀ B s σ H w Q, Sim (XC X) B s σ H w → Post (XC X) B W (RepW (XC X)) (m s) σ w Q → tOp r ta tb σ H Q
def D2 (X : Cx) (W : WX) (o : O2) (a b : Expr) (m : M D) : Prop := ∃ ta tb, PE X a ta ∧ PE X b tb ∧ TwoOk X W o m ta tb
theorem d2_ee {o : O2} {a b : Expr} {ma mb : M D} (ha : DE X W a ma) (hb : DE X W b mb) : D2 X W o a b (mOp o ma mb) := by
  obtain ⟨ta, pa, ka⟩ := ha
  obtain ⟨tb, pb, kb⟩ := hb
  refine ⟨ta, tb, pa, pb, ⟨fun r hr B s σ H w Q S p => ?_⟩⟩
  refine ka B s σ H w _ S (post_bnd p fun d s1 x H1 w1 _ l1 S1 r1 p1 => ?_)
  refine kb B s1 σ H1 w1 _ S1 (post_bnd p1 fun d2 s2 y H2 w2 _ l2 S2 r2 p2 => ?_)
  obtain ⟨d3, e3, k3⟩ := post_fin p2
  exact hr B s2 σ H2 w2 _ _ d3 x y Q S2 (PRep.deref S2 (RepW.le l2 r1)) (PRep.deref S2 r2) e3 k3
theorem pv_at (i : Nat) {x : Str} {pos : Pos} (hN : X.N[i]? = some x) (hv : Vis X.env.scope x) (hd : (x == ("__debug__" : Str)) = false) (hcd : (x == ("__classdict__" : Str)) = false) : PE X (.Name x pos) (tVar i) := pe_var hN hv hd hcd
theorem d2_ne (i : Nat) {o : O2} {x : Str} {pos : Pos} {b : Expr} {mb : M D} (hb : DE X W b mb) (hN : X.N[i]? = some x := by rfl) (hv : Vis X.env.scope x := by first | exact Or.inl rfl | exact Or.inr (Or.inl rfl) | exact Or.inr (Or.inr rfl))
    (hd : (x == ("__debug__" : Str)) = false := by decide) (hcd : (x == ("__classdict__" : Str)) = false := by decide) : D2 X W o (.Name x pos) b (mOpN o i mb) := by
  obtain ⟨tb, pb, kb⟩ := hb
  refine ⟨tVar i, tb, pv_at i hN hv hd hcd, pb, ⟨fun r hr B s σ H w Q S p => ?_⟩⟩
  unfold mOpN at p
  cases e0 : peek s i with
  | none => rw [e0] at p; exact p.elim
  | some a0 =>
    rw [e0] at p
    obtain ⟨x0, hx0, _⟩ := PRep.peek S e0
    refine ⟨x0, hx0, kb B s σ H w _ S (post_bnd p fun d2 s2 y H2 w2 _ l2 S2 r2 p2 => ?_)⟩
    cases e1 : peek s2 i with
    | none => rw [e1] at p2; exact p2.elim
    | some a1 =>
      rw [e1] at p2
      obtain ⟨x1, hx1, r1⟩ := PRep.peek S2 e1
      rw [hx0] at hx1
      cases hx1
      obtain ⟨d3, e3, k3⟩ := post_fin p2
      exact hr B s2 σ H2 w2 _ _ d3 x0 y Q S2 r1 (PRep.deref S2 r2) e3 k3
theorem d2_en (j : Nat) {o : O2} {x : Str} {pos : Pos} {a : Expr} {ma : M D} (ha : DE X W a ma) (hN : X.N[j]? = some x := by rfl) (hv : Vis X.env.scope x := by first | exact Or.inl rfl | exact Or.inr (Or.inl rfl) | exact Or.inr (Or.inr rfl))
    (hd : (x == ("__debug__" : Str)) = false := by decide) (hcd : (x == ("__classdict__" : Str)) = false := by decide) : D2 X W o a (.Name x pos) (mOpE o ma j) := by
  obtain ⟨ta, pa, ka⟩ := ha
  refine ⟨ta, tVar j, pa, pv_at j hN hv hd hcd, ⟨fun r hr B s σ H w Q S p => ?_⟩⟩
  refine ka B s σ H w _ S (post_bnd p fun d1 s1 x1 H1 w1 _ l1 S1 r1 p1 => ?_)
  cases e1 : peek s1 j with
  | none => rw [e1] at p1; exact p1.elim
  | some a1 =>
    rw [e1] at p1
    obtain ⟨y, hy, r2⟩ := PRep.peek S1 e1
    obtain ⟨d3, e3, k3⟩ := post_fin p1
    exact ⟨y, hy, hr B s1 σ H1 w1 _ _ d3 x1 y Q S1 (PRep.deref S1 r1) r2 e3 k3⟩
theorem d2_nn (i j : Nat) {o : O2} {x y : Str} {pos pos' : Pos} (hN : X.N[i]? = some x := by rfl) (hM : X.N[j]? = some y := by rfl)
    (hv : Vis X.env.scope x := by first | exact Or.inl rfl | exact Or.inr (Or.inl rfl) | exact Or.inr (Or.inr rfl)) (hu : Vis X.env.scope y := by first | exact Or.inl rfl | exact Or.inr (Or.inl rfl) | exact Or.inr (Or.inr rfl))
    (hd : (x == ("__debug__" : Str)) = false := by decide) (hcd : (x == ("__classdict__" : Str)) = false := by decide) (hd2 : (y == ("__debug__" : Str)) = false := by decide) (hcd2 : (y == ("__classdict__" : Str)) = false := by decide) :
    D2 X W o (.Name x pos) (.Name y pos') (mOpB o i j) := by
  refine ⟨tVar i, tVar j, pv_at i hN hv hd hcd, pv_at j hM hu hd2 hcd2, ⟨fun r hr B s σ H w Q S p => ?_⟩⟩
  unfold mOpB at p
  cases e0 : peek s i with
  | none => rw [e0] at p; exact p.elim
  | some a0 =>
    cases e1 : peek s j with
    | none => rw [e0, e1] at p; exact p.elim
    | some a1 =>
      rw [e0, e1] at p
      obtain ⟨x0, hx0, r0⟩ := PRep.peek S e0
      obtain ⟨x1, hx1, r1⟩ := PRep.peek S e1
      obtain ⟨d3, e3, k3⟩ := post_fin p
      exact ⟨x0, hx0, x1, hx1, hr B s σ H w _ _ d3 x0 x1 Q S r0 r1 e3 k3⟩
theorem de_bin {op : Operator} {o : O2} {a b : Expr} {m : M D} {pos : Pos} (ho : OpS X (binaryOp op) o) (h : D2 X W o a b m) : DE X W (.BinOp a op b pos) m := by
  obtain ⟨r, hr, k⟩ := ho
  obtain ⟨ta, tb, pa, pb, ⟨ok⟩⟩ := h
  exact de_of (pe_op hr pa pb) (ok r k)
theorem de_cmp {op : CmpOp} {o : O2} {a b : Expr} {m : M D} {pos : Pos} (ho : OpS X (compareOp op) o) (h : D2 X W o a b m) (hm : behindInMarks op b = false := by first | exact nomark _ | rfl) : DE X W (.Compare a [op] [b] pos) m := by
  obtain ⟨r, hr, k⟩ := ho
  obtain ⟨ta, tb, pa, pb, ⟨ok⟩⟩ := h
  exact de_of (pe_cmpR hr pa pb hm) (ok r k)
def mB (m : M D) : M Bool := bnd m fun d => match d with
  | .bl b => ret b
  | _ => bad
theorem post_mB {c : Ct} {B : Bs} {m : M D} {s : S} {σ : L2.St} {w : Wd} {Q : Bool → Hp → Prop} (h : Post c B W (fun _ a b => a = b) (mB m s) σ w Q) : Post c B W (RepW c) (m s) σ w (fun x H' => ∃ b, x = .bl b ∧ Q b H') :=
  post_bnd h fun d s1 x H1 w1 _ l1 S1 r1 p1 => by
    cases d with
    | bl b => exact ⟨b, r1, post_ret p1 (Wd.le.refl w1) S1 rfl⟩
    | _ => exact p1.elim
theorem dt_cmp {op : CmpOp} {o : O2} {a b : Expr} {m : M D} {pos : Pos} (ho : OpS X (compareOp op) o) (h : D2 X W o a b m) (hm : behindInMarks op b = false := by first | exact nomark _ | rfl) : DT X W (.Compare a [op] [b] pos) (mB m) := by
  obtain ⟨r, hr, k⟩ := ho
  obtain ⟨ta, tb, pa, pb, ⟨ok⟩⟩ := h
  exact ⟨_, pt_cmpR hr pa pb hm, fun B s σ H w Q S p => ok r k B s σ H w _ S (post_mB p)⟩
theorem dt_val {e : Expr} {m : M D} (h : DE X W e m) (he : ∀ whole, isTrue e X.env whole = (do let v ← whole; standAt e.pos; holding [v] (truthy v)) := by intro _; rfl) : DT X W e (mB m) := by
  obtain ⟨t, ht, k⟩ := h
  exact ⟨_, pt_val ht he, fun B s σ H w Q S p => k B s σ H w _ S (post_mB p)⟩
def mNot (m : M Bool) : M Bool := bnd m fun b => ret (!b)
theorem dt_not {a : Expr} {m : M Bool} {pos : Pos} (h : DT X W a m) : DT X W (.UnaryOp .Not a pos) (mNot m) := by
  obtain ⟨t, ht, k⟩ := h
  exact ⟨_, pt_not ht, fun B s σ H w Q S p => k B s σ H w _ S (post_bnd p fun b s1 x H1 w1 _ l1 S1 r1 p1 => by
    subst r1
    exact post_ret p1 (Wd.le.refl w1) S1 rfl)⟩
def mAnd (m n : M Bool) : M Bool := bnd m fun b => if b then n else ret false
def mOr (m n : M Bool) : M Bool := bnd m fun b => if b then ret true else n
theorem DW.dt {e : Expr} {m : M Bool} (h : DW X W e m) : DT X W e m := by
  obtain ⟨t, ht, k⟩ := h
  exact ⟨t, ht.pt, k⟩
theorem dw_and1 {a : Expr} {m : M Bool} {pos : Pos} (h : DT X W a m) : DW X W (.BoolOp .And [a] pos) m := by
  obtain ⟨t, ht, k⟩ := h
  exact ⟨t, pw_and1 ht, k⟩
theorem dw_or1 {a : Expr} {m : M Bool} {pos : Pos} (h : DT X W a m) : DW X W (.BoolOp .Or [a] pos) m := by
  obtain ⟨t, ht, k⟩ := h
  exact ⟨t, pw_or1 ht, k⟩
theorem dw_and {a b : Expr} {rest : List Expr} {m n : M Bool} {pos : Pos} (h : DT X W a m) (h2 : DW X W (.BoolOp .And (b :: rest) pos) n) : DW X W (.BoolOp .And (a :: b :: rest) pos) (mAnd m n) := by
  obtain ⟨t, ht, k⟩ := h
  obtain ⟨u, hu, k2⟩ := h2
  refine ⟨_, pw_and ht hu, fun B s σ H w Q S p => k B s σ H w _ S (post_bnd p fun b s1 x H1 w1 _ l1 S1 r1 p1 => ?_)⟩
  subst r1
  cases b with
  | true => exact k2 B s1 σ H1 w1 Q S1 p1
  | false => exact post_ret p1 (Wd.le.refl w1) S1 rfl
theorem dw_or {a b : Expr} {rest : List Expr} {m n : M Bool} {pos : Pos} (h : DT X W a m) (h2 : DW X W (.BoolOp .Or (b :: rest) pos) n) : DW X W (.BoolOp .Or (a :: b :: rest) pos) (mOr m n) := by
  obtain ⟨t, ht, k⟩ := h
  obtain ⟨u, hu, k2⟩ := h2
  refine ⟨_, pw_or ht hu, fun B s σ H w Q S p => k B s σ H w _ S (post_bnd p fun b s1 x H1 w1 _ l1 S1 r1 p1 => ?_)⟩
  subst r1
  cases b with
  | true => exact post_ret p1 (Wd.le.refl w1) S1 rfl
  | false => exact k2 B s1 σ H1 w1 Q S1 p1
def mAndV (m n : M D) : M D := bnd m fun d => match d with
  | .bl b => if b then n else ret (.bl false)
  | _ => bad
def mOrV (m n : M D) : M D := bnd m fun d => match d with
  | .bl b => if b then ret (.bl true) else n
  | _ => bad
def mNotV (m : M D) : M D := bnd m fun d => match d with
  | .bl b => ret (.bl (!b))
  | _ => bad
theorem de_one {op} {a : Expr} {m : M D} {pos : Pos} (h : DE X W a m) : DE X W (.BoolOp op [a] pos) m := by
  obtain ⟨t, ht, k⟩ := h
  exact de_of (pe_one ht) k
theorem de_and {a b : Expr} {rest : List Expr} {m n : M D} {pos : Pos} (h : DE X W a m) (h2 : DE X W (.BoolOp .And (b :: rest) pos) n) : DE X W (.BoolOp .And (a :: b :: rest) pos) (mAndV m n) := by
  obtain ⟨t, ht, k⟩ := h
  obtain ⟨u, hu, k2⟩ := h2
  refine de_of (pe_and ht hu) fun B s σ H w Q S p => k B s σ H w _ S (post_bnd p fun d s1 x H1 w1 _ l1 S1 r1 p1 => ?_)
  cases d with
  | bl b =>
    refine ⟨b, r1, ?_⟩
    cases b with
    | true => exact k2 B s1 σ H1 w1 Q S1 p1
    | false => exact post_ret p1 (Wd.le.refl w1) S1 rfl
  | _ => exact p1.elim
theorem de_or {a b : Expr} {rest : List Expr} {m n : M D} {pos : Pos} (h : DE X W a m) (h2 : DE X W (.BoolOp .Or (b :: rest) pos) n) : DE X W (.BoolOp .Or (a :: b :: rest) pos) (mOrV m n) := by
  obtain ⟨t, ht, k⟩ := h
  obtain ⟨u, hu, k2⟩ := h2
  refine de_of (pe_or ht hu) fun B s σ H w Q S p => k B s σ H w _ S (post_bnd p fun d s1 x H1 w1 _ l1 S1 r1 p1 => ?_)
  cases d with
  | bl b =>
    refine ⟨b, r1, ?_⟩
    cases b with
    | true => exact post_ret p1 (Wd.le.refl w1) S1 rfl
    | false => exact k2 B s1 σ H1 w1 Q S1 p1
  | _ => exact p1.elim
theorem de_not {a : Expr} {m : M D} {pos : Pos} (h : DE X W a m) : DE X W (.UnaryOp .Not a pos) (mNotV m) := by
  obtain ⟨t, ht, k⟩ := h
  refine de_of (pe_not ht) fun B s σ H w Q S p => k B s σ H w _ S (post_bnd p fun d s1 x H1 w1 _ l1 S1 r1 p1 => ?_)
  cases d with
  | bl b => exact ⟨b, r1, post_ret p1 (Wd.le.refl w1) S1 rfl⟩
  | _ => exact p1.elim
def mIf {α : Type} (t : M Bool) (a b : M α) : M α := bnd t fun c => if c then a else b
theorem de_ifExp {c a b : Expr} {t : M Bool} {ma mb : M D} {pos : Pos} (hc : DT X W c t) (ha : DE X W a ma) (hb : DE X W b mb) : DE X W (.IfExp c a b pos) (mIf t ma mb) := by
  obtain ⟨tc, pc, kc⟩ := hc
  obtain ⟨ta, pa, ka⟩ := ha
  obtain ⟨tb, pb, kb⟩ := hb
  refine de_of (pe_ifExp pc pa pb) fun B s σ H w Q S p => kc B s σ H w _ S (post_bnd p fun d s1 x H1 w1 _ l1 S1 r1 p1 => ?_)
  subst r1
  cases d with
  | true => exact ka B s1 σ H1 w1 Q S1 p1
  | false => exact kb B s1 σ H1 w1 Q S1 p1
def mChain (o o' : O2) (ma mb mc : M D) : M D := bnd ma fun a => bnd mb fun b => bnd (fun s => fin (o (deref s a) (deref s b)) s) fun k => match k with
  | .bl true => bnd mc fun c => fun s => fin (o' (deref s b) (deref s c)) s
  | .bl false => ret (.bl false)
  | _ => bad
def DB (X : Cx) (W : WX) (e : Expr) (m : M D) : Prop := ∃ t, PE X e t ∧ PT X e (tTest t) ∧ ∀ B s σ H w Q, Sim (XC X) B s σ H w → Post (XC X) B W (RepW (XC X)) (m s) σ w Q → t σ H Q
theorem DB.de {e : Expr} {m : M D} (h : DB X W e m) : DE X W e m := by
  obtain ⟨t, p, _, k⟩ := h
  exact ⟨t, p, k⟩
theorem DB.dt {e : Expr} {m : M D} (h : DB X W e m) : DT X W e (mB m) := by
  obtain ⟨t, _, p, k⟩ := h
  exact ⟨_, p, fun B s σ H w Q S q => k B s σ H w _ S (post_mB q)⟩
theorem db_chain {op op' : CmpOp} {o o' : O2} {a b c : Expr} {ma mb mc : M D} {pos : Pos} (ho : OpS X (compareOp op) o) (ho' : OpS X (compareOp op') o') (ha : DE X W a ma) (hb : DE X W b mb) (hc : DE X W c mc)
    (hm : lastMarks [op, op'] [b, c] = false := by with_unfolding_all rfl) : DB X W (.Compare a [op, op'] [b, c] pos) (mChain o o' ma mb mc) := by
  obtain ⟨r, hr, k⟩ := ho
  obtain ⟨r', hr', k'⟩ := ho'
  obtain ⟨ta, pa, ka⟩ := ha
  obtain ⟨tb, pb, kb⟩ := hb
  obtain ⟨tc, pc, kc⟩ := hc
  refine ⟨_, pe_chain hr hr' pa pb pc hm, pt_chain hr hr' pa pb pc hm, fun B s σ H w Q S p => ?_⟩
  refine ka B s σ H w _ S (post_bnd p fun d1 s1 x H1 w1 _ l1 S1 r1 p1 => ?_)
  refine kb B s1 σ H1 w1 _ S1 (post_bnd p1 fun d2 s2 y H2 w2 _ l2 S2 r2 p2 => ?_)
  obtain ⟨d3, e3, k3⟩ := post_fin (post_bnd (Q1 := fun z H3 => ∃ k, z = .bl k ∧ if k = true then tc σ H3 (fun w' H4 => r' y w' H4 Q) else Q (.bl false) H3) p2 fun d3 s3 z H3 w3 e3 l3 S3 r3 p3 => by
    have es : s3 = s2 := by
      unfold fin at e3
      split at e3
      · cases e3; rfl
      · cases e3
    subst es
    cases d3 with
    | bl b =>
      refine ⟨b, r3, ?_⟩
      cases b with
      | true =>
        show tc σ H3 _
        refine kc B s3 σ H3 w3 _ S3 (post_bnd p3 fun d4 s4 v H4 w4 _ l4 S4 r4 p4 => ?_)
        obtain ⟨d5, e5, k5⟩ := post_fin p4
        exact k' B s4 σ H4 w4 _ _ d5 y v Q S4 (PRep.deref S4 (RepW.le (l3.trans l4) r2)) (PRep.deref S4 r4) e5 k5
      | false => exact post_ret p3 (Wd.le.refl w3) S3 rfl
    | _ => exact p3.elim)
  exact k B s2 σ H2 w2 _ _ d3 x y _ S2 (PRep.deref S2 (RepW.le l2 r1)) (PRep.deref S2 r2) e3 k3
end
end DM
set_option Elab.async false
set_option linter.all false
set_option maxRecDepth 100000
set_option maxHeartbeats 400000
namespace DM
open PySem PySem.Spec PyProof.Rows L2
def insI (x : Int) : List Int → List Int
  | [] => [x]
  | y :: ys => if x ≤ y then x :: y :: ys else y :: insI x ys
def isort : List Int → List Int
  | [] => []
  | x :: xs => insI x (isort xs)
theorem insI_perm (x : Int) : ∀ l : List Int, (insI x l).Perm (x :: l)
  | [] => List.Perm.refl _
  | y :: ys => by
    unfold insI
    split
    · exact List.Perm.refl _
    · exact ((insI_perm x ys).cons y).trans (List.Perm.swap x y ys)
theorem isort_perm : ∀ l : List Int, (isort l).Perm l
  | [] => List.Perm.refl _
  | x :: xs => (insI_perm x _).trans ((isort_perm xs).cons x)
theorem insI_sorted (x : Int) : ∀ {l : List Int}, l.Pairwise (· ≤ ·) → (insI x l).Pairwise (· ≤ ·)
  | [], _ => List.pairwise_singleton _ _
  | y :: ys, h => by
    unfold insI
    rw [List.pairwise_cons] at h
    split
    · rename_i hxy
      refine List.pairwise_cons.mpr ⟨fun z hz => ?_, List.pairwise_cons.mpr h⟩
      rcases List.mem_cons.mp hz with e | hz
      · rw [e]; exact hxy
      · exact Int.le_trans hxy (h.1 z hz)
    · rename_i hxy
      refine List.pairwise_cons.mpr ⟨fun z hz => ?_, insI_sorted x h.2⟩
      rcases List.mem_cons.mp ((insI_perm x ys).mem_iff.mp hz) with e | hz
      · rw [e]; omega
      · exact h.1 z hz
theorem isort_sorted : ∀ l : List Int, (isort l).Pairwise (· ≤ ·)
  | [] => List.Pairwise.nil
  | x :: xs => insI_sorted x (isort_sorted xs)
theorem sorted_uniq : ∀ {a b : List Int}, a.Perm b → a.Pairwise (· ≤ ·) → b.Pairwise (· ≤ ·) → a = b
  | [], b, h, _, _ => h.nil_eq
  | x :: xs, [], h, _, _ => absurd h.length_eq (by simp)
  | x :: xs, y :: ys, h, ha, hb => by
    rw [List.pairwise_cons] at ha hb
    have e : x = y := by
      have h1 : x ∈ y :: ys := h.mem_iff.mp List.mem_cons_self
      have h2 : y ∈ x :: xs := h.mem_iff.mpr List.mem_cons_self
      rcases List.mem_cons.mp h1 with e | h1
      · exact e
      · rcases List.mem_cons.mp h2 with e | h2
        · exact e.symm
        · exact Int.le_antisymm (ha.1 y h2) (hb.1 x h1)
    subst e
    rw [sorted_uniq (List.Perm.cons_inv h) ha.2 hb.2]
def insU (x : Int) : List Int → List Int
  | [] => [x]
  | y :: ys => if x < y then x :: y :: ys else if x = y then y :: ys else y :: insU x ys
def usort : List Int → List Int
  | [] => []
  | x :: xs => insU x (usort xs)
theorem insU_mem (x z : Int) : ∀ l : List Int, z ∈ insU x l ↔ z = x ∨ z ∈ l
  | [] => by simp [insU]
  | y :: ys => by
    unfold insU
    split
    · simp
    · split
      · rename_i h; subst h; simp
      · rw [List.mem_cons, insU_mem x z ys, List.mem_cons]
        constructor
        · rintro (h | h | h) <;> simp [h]
        · rintro (h | h | h) <;> simp [h]
theorem usort_mem (z : Int) : ∀ l : List Int, z ∈ usort l ↔ z ∈ l
  | [] => Iff.rfl
  | x :: xs => by
    show z ∈ insU x (usort xs) ↔ _
    rw [insU_mem, usort_mem z xs, List.mem_cons]
theorem insU_sorted (x : Int) : ∀ {l : List Int}, l.Pairwise (· < ·) → (insU x l).Pairwise (· < ·)
  | [], _ => List.pairwise_singleton _ _
  | y :: ys, h => by
    unfold insU
    have h' := h
    rw [List.pairwise_cons] at h
    split
    · rename_i hxy
      refine List.pairwise_cons.mpr ⟨fun z hz => ?_, h'⟩
      rcases List.mem_cons.mp hz with e | hz
      · rw [e]; exact hxy
      · exact Int.lt_trans hxy (h.1 z hz)
    · split
      · exact h'
      · rename_i h1 h2
        refine List.pairwise_cons.mpr ⟨fun z hz => ?_, insU_sorted x h.2⟩
        rcases (insU_mem x z ys).mp hz with e | hz
        · rw [e]; omega
        · exact h.1 z hz
theorem usort_sorted : ∀ l : List Int, (usort l).Pairwise (· < ·)
  | [] => List.Pairwise.nil
  | x :: xs => insU_sorted x (usort_sorted xs)
theorem strict_uniq : ∀ {a b : List Int}, (∀ z, z ∈ a ↔ z ∈ b) → a.Pairwise (· < ·) → b.Pairwise (· < ·) → a = b
  | [], [], _, _, _ => rfl
  | [], y :: ys, h, _, _ => absurd ((h y).mpr List.mem_cons_self) (by simp)
  | x :: xs, [], h, _, _ => absurd ((h x).mp List.mem_cons_self) (by simp)
  | x :: xs, y :: ys, h, ha, hb => by
    rw [List.pairwise_cons] at ha hb
    have e : x = y := by
      rcases List.mem_cons.mp ((h x).mp List.mem_cons_self) with e | h1
      · exact e
      · rcases List.mem_cons.mp ((h y).mpr List.mem_cons_self) with e | h2
        · exact e.symm
        · exact absurd (Int.lt_trans (ha.1 y h2) (hb.1 x h1)) (Int.lt_irrefl _)
    subst e
    rw [strict_uniq (a := xs) (b := ys) (fun z => ?_) ha.2 hb.2]
    constructor
    · intro hz
      rcases List.mem_cons.mp ((h z).mp (List.mem_cons_of_mem _ hz)) with e | h1
      · subst e; exact absurd (ha.1 z hz) (Int.lt_irrefl _)
      · exact h1
    · intro hz
      rcases List.mem_cons.mp ((h z).mpr (List.mem_cons_of_mem _ hz)) with e | h1
      · subst e; exact absurd (hb.1 z hz) (Int.lt_irrefl _)
      · exact h1
def dInts : List D → Option (List Int)
  | [] => some []
  | .int i :: r => (dInts r).map (i :: ·)
  | _ => none
def dBools : List D → Option (List Bool)
  | [] => some []
  | .bl b :: r => (dBools r).map (b :: ·)
  | _ => none
theorem dInts_map : ∀ ns : List Int, dInts (ns.map D.int) = some ns
  | [] => rfl
  | n :: ns => by rw [List.map_cons]; show (dInts (ns.map D.int)).map (n :: ·) = _; rw [dInts_map ns] <;> rfl
theorem dInts_eq : ∀ {ds : List D} {ns : List Int}, dInts ds = some ns → ds = ns.map D.int
  | [], ns, h => by cases h; rfl
  | .int i :: r, ns, h => by
    obtain ⟨q, h1, rfl⟩ := Option.map_eq_some_iff.mp (show (dInts r).map (i :: ·) = some ns from h)
    rw [dInts_eq h1] <;> rfl
  | .non :: _, _, h => nomatch h
  | .bl _ :: _, _, h => nomatch h
  | .str _ :: _, _, h => nomatch h
  | .ty _ :: _, _, h => nomatch h
  | .tup _ :: _, _, h => nomatch h
  | .lst _ :: _, _, h => nomatch h
  | .dicK _ :: _, _, h => nomatch h
  | .dicT _ :: _, _, h => nomatch h
  | .ins _ _ :: _, _, h => nomatch h
  | .cel _ :: _, _, h => nomatch h
  | .scr _ :: _, _, h => nomatch h
theorem dBools_map : ∀ ns : List Bool, dBools (ns.map D.bl) = some ns
  | [] => rfl
  | n :: ns => by rw [List.map_cons]; show (dBools (ns.map D.bl)).map (n :: ·) = _; rw [dBools_map ns] <;> rfl
theorem dBools_eq : ∀ {ds : List D} {ns : List Bool}, dBools ds = some ns → ds = ns.map D.bl
  | [], ns, h => by cases h; rfl
  | .bl i :: r, ns, h => by
    obtain ⟨q, h1, rfl⟩ := Option.map_eq_some_iff.mp (show (dBools r).map (i :: ·) = some ns from h)
    rw [dBools_eq h1] <;> rfl
  | .non :: _, _, h => nomatch h
  | .int _ :: _, _, h => nomatch h
  | .str _ :: _, _, h => nomatch h
  | .ty _ :: _, _, h => nomatch h
  | .tup _ :: _, _, h => nomatch h
  | .lst _ :: _, _, h => nomatch h
  | .dicK _ :: _, _, h => nomatch h
  | .dicT _ :: _, _, h => nomatch h
  | .ins _ _ :: _, _, h => nomatch h
  | .cel _ :: _, _, h => nomatch h
  | .scr _ :: _, _, h => nomatch h
section
variable {c : Ct} {F H : Hp} {m : List Addr} {w : Wd}
theorem repL_ints : ∀ {ns : List Int} {xs : List V}, RepL c F m (ns.map D.int) xs → xs = ns.map V.int
  | [], _, h => h
  | n :: ns, _, ⟨y, ys, e, h, r⟩ => by rw [e, show y = V.int n from h, repL_ints r] <;> rfl
theorem ints_repL : ∀ (ns : List Int), RepL c F m (ns.map D.int) (ns.map V.int)
  | [] => rfl
  | n :: ns => ⟨_, _, rfl, rfl, ints_repL ns⟩
theorem repL_bools : ∀ {ns : List Bool} {xs : List V}, RepL c F m (ns.map D.bl) xs → xs = ns.map V.bl
  | [], _, h => h
  | n :: ns, _, ⟨y, ys, e, h, r⟩ => by rw [e, show y = V.bl n from h, repL_bools r] <;> rfl
end
abbrev OC := List D → Option D
def CallS (X : Cx) (f : Value) (o : OC) : Prop := ∃ r, CallR X f r ∧ ∀ B s σ H w ds d xs Q, Sim (XC X) B s σ H w → PRepL (XC X) H w ds xs → o ds = some d →
  (∀ z H' w', w.le w' → Sim (XC X) B s σ H' w' → RepW (XC X) w' d z → Q z H') → r xs H Q
def CallF (X : Cx) (f : Value) (o : List D → Option (List D)) : Prop := ∃ r, CallR X f r ∧ ∀ B s σ H w ds d xs Q, Sim (XC X) B s σ H w → PRepL (XC X) H w ds xs → o ds = some d →
  (∀ z H' w', w.le w' → Sim (XC X) B s σ H' w' → RFr (XC X) H' w' d z → Q z H') → r xs H Q
def orC {α : Type} (o o' : List D → Option α) : List D → Option α := fun a => match o a with
  | some d => some d
  | none => o' a
theorem CallS.or {X : Cx} {f : Value} {o o' : OC} (h : CallS X f o) (h' : CallS X f o') : CallS X f (orC o o') := by
  obtain ⟨r, hr, k⟩ := h
  obtain ⟨r', hr', k'⟩ := h'
  refine ⟨_, hr.or hr', fun B s σ H w ds d xs Q S ra e q => ?_⟩
  unfold orC at e
  cases e1 : o ds with
  | some d1 => rw [e1] at e; cases e; exact .inl (k B s σ H w ds d xs Q S ra e1 q)
  | none => rw [e1] at e; exact .inr (k' B s σ H w ds d xs Q S ra e q)
theorem CallF.or {X : Cx} {f : Value} {o o' : List D → Option (List D)} (h : CallF X f o) (h' : CallF X f o') : CallF X f (orC o o') := by
  obtain ⟨r, hr, k⟩ := h
  obtain ⟨r', hr', k'⟩ := h'
  refine ⟨_, hr.or hr', fun B s σ H w ds d xs Q S ra e q => ?_⟩
  unfold orC at e
  cases e1 : o ds with
  | some d1 => rw [e1] at e; cases e; exact .inl (k B s σ H w ds d xs Q S ra e1 q)
  | none => rw [e1] at e; exact .inr (k' B s σ H w ds d xs Q S ra e q)
def PostP (c : Ct) (B : Bs) (W : WX) (r : Res (List D)) (σ : L2.St) (w : Wd) (Q : List V → Hp → Prop) : Prop :=
  match r with
  | .ok ds s => ∀ x H' w', w.le w' → Sim c B s σ H' w' → PRepL c H' w' ds x → Q x H'
  | .exc e s => PostX c B W e s w
  | .bad => False
def DP (X : Cx) (W : WX) (es : List Expr) (m : M (List D)) : Prop := ∃ t, PA X es t ∧ ∀ B s σ H w Q, Sim (XC X) B s σ H w → PostP (XC X) B W (m s) σ w Q → t σ H Q
def mArgs (m : M (List D)) : M (List D) := bnd m fun ds => fun s => .ok (ds.map (deref s)) s
def mLook (i : Nat) : M (List D) := fun s => match peek s i with
  | some d => .ok [d] s
  | none => .bad
section
variable {X : Cx} {W : WX}
theorem DA.look {es : List Expr} {m : M (List D)} (h : DA X W es m) : DP X W es (mArgs m) := by
  obtain ⟨t, ht, k⟩ := h
  refine ⟨t, ht, fun B s σ H w Q S p => k B s σ H w Q S ?_⟩
  unfold mArgs bnd at p
  cases e : m s with
  | ok ds s1 =>
    rw [e] at p
    exact fun x H' w' l S1 r => p x H' w' l S1 (PRepL.deref S1 r)
  | exc ex s1 => rw [e] at p; exact p
  | bad => rw [e] at p; exact p
theorem dp_name (i : Nat) {x : Str} {pos : Pos} (hN : X.N[i]? = some x := by rfl) (hv : Vis X.env.scope x := by first | exact Or.inl rfl | exact Or.inr (Or.inl rfl) | exact Or.inr (Or.inr rfl))
    (hd : (x == ("__debug__" : Str)) = false := by decide) (hcd : (x == ("__classdict__" : Str)) = false := by decide)
    (hs : starEach [.Name x pos] X.env = (false, eval (.Name x pos) X.env) :: starEach [] X.env := by rfl) : DP X W [.Name x pos] (mLook i) := by
  refine ⟨_, pa_cons (pv_at i hN hv hd hcd) pa_nil hs, fun B s σ H w Q S p => ?_⟩
  unfold mLook at p
  cases e : peek s i with
  | none => rw [e] at p; exact p.elim
  | some d =>
    rw [e] at p
    obtain ⟨y, hy, r⟩ := PRep.peek S e
    exact ⟨y, hy, p [y] H w (Wd.le.refl w) S ⟨y, [], rfl, r, rfl⟩⟩
def mArgF (m : M (List D)) : M (List D) := bnd m fun ds => ret [.lst ds]
theorem DF.look {e : Expr} {m : M (List D)} (h : DF X W e m) (hs : starEach [e] X.env = (false, eval e X.env) :: starEach [] X.env := by rfl) : DP X W [e] (mArgF m) := by
  obtain ⟨t, ht, k⟩ := h
  refine ⟨_, pa_cons ht pa_nil hs, fun B s σ H w Q S p => k B s σ H w _ S ?_⟩
  unfold mArgF bnd at p
  cases e : m s with
  | ok ds s1 =>
    rw [e] at p
    intro x H' w' l S1 r
    obtain ⟨a, xs, e1, h1, _, _, r1⟩ := r
    exact p [x] H' w' l S1 ⟨x, [], rfl, ⟨a, xs, e1, h1, r1⟩, rfl⟩
  | exc ex s1 => rw [e] at p; exact p
  | bad => rw [e] at p; exact p
def mCallS (o : OC) (m : M (List D)) : M D := bnd m fun ds => fin (o ds)
def mCallF (o : List D → Option (List D)) (m : M (List D)) : M (List D) := bnd m fun ds => fun s => match o ds with
  | some d => .ok d s
  | none => .bad
theorem callS_run {f : Value} {o : OC} {r : List V → Hp → VK → Prop} (k : ∀ B s σ H w ds d xs Q, Sim (XC X) B s σ H w → PRepL (XC X) H w ds xs → o ds = some d →
    (∀ z H' w', w.le w' → Sim (XC X) B s σ H' w' → RepW (XC X) w' d z → Q z H') → r xs H Q) {t : TA} {m : M (List D)} (kt : ∀ B s σ H w Q, Sim (XC X) B s σ H w → PostP (XC X) B W (m s) σ w Q → t σ H Q)
    (B : Bs) (s : S) (σ : L2.St) (H : Hp) (w : Wd) (Q : VK) (S : Sim (XC X) B s σ H w) (p : Post (XC X) B W (RepW (XC X)) (mCallS o m s) σ w Q) : tCB r t σ H Q := by
  refine kt B s σ H w _ S ?_
  unfold mCallS bnd at p
  cases e : m s with
  | ok ds s1 =>
    rw [e] at p
    intro xs H' w' l S1 r1
    obtain ⟨d, e2, k2⟩ := post_fin (Post.up p l)
    exact k B s1 σ H' w' ds d xs Q S1 r1 e2 k2
  | exc ex s1 => rw [e] at p; exact p
  | bad => rw [e] at p; exact p
theorem callF_run {f : Value} {o : List D → Option (List D)} {r : List V → Hp → VK → Prop} (k : ∀ B s σ H w ds d xs Q, Sim (XC X) B s σ H w → PRepL (XC X) H w ds xs → o ds = some d →
    (∀ z H' w', w.le w' → Sim (XC X) B s σ H' w' → RFr (XC X) H' w' d z → Q z H') → r xs H Q) {t : TA} {m : M (List D)} (kt : ∀ B s σ H w Q, Sim (XC X) B s σ H w → PostP (XC X) B W (m s) σ w Q → t σ H Q)
    (B : Bs) (s : S) (σ : L2.St) (H : Hp) (w : Wd) (Q : VK) (S : Sim (XC X) B s σ H w) (p : PostF (XC X) B W (mCallF o m s) σ w Q) : tCB r t σ H Q := by
  refine kt B s σ H w _ S ?_
  unfold mCallF bnd at p
  cases e : m s with
  | ok ds s1 =>
    rw [e] at p
    intro xs H' w' l S1 r1
    cases e2 : o ds with
    | none => have p' := p; simp only [e2] at p'; exact p'.elim
    | some d =>
      have p' := p
      simp only [e2] at p'
      exact k B s1 σ H' w' ds d xs Q S1 r1 e2 fun z H2 w2 l2 S2 r2 => p' z H2 w2 (l.trans l2) S2 r2
  | exc ex s1 => rw [e] at p; exact p
  | bad => rw [e] at p; exact p
theorem de_callB {x : Str} {id : String} {o : OC} {e : Expr} {es : List Expr} {m : M (List D)} {p pos : Pos} (hc : CallS X (.builtin id) o) (h : DP X W (e :: es) m) (hg : Gl X x) (hm : X.mg x = none) (hv : bootBuiltins x = some (.builtin id)) (hn : x ≠ "__name__") (hdb : (x == ("__debug__" : Str)) = false)
    (he : starEach (e :: es) X.env = (false, eval e X.env) :: starEach es X.env := by rfl) (hpl : (backTo pos (starEach es X.env)).any (·.1) = false := by rfl) : DE X W (.Call (.Name x p) (e :: es) [] pos) (mCallS o m) := by
  obtain ⟨r, hr, k⟩ := hc
  obtain ⟨t, ht, kt⟩ := h
  exact de_of (pe_callB hr hg hm hv ht hn hdb he hpl) (callS_run (f := .builtin id) k kt)
theorem de_callTy {x : Str} {id : String} {o : OC} {e : Expr} {es : List Expr} {m : M (List D)} {p pos : Pos} (hc : CallS X (.type id) o) (h : DP X W (e :: es) m) (hg : Gl X x) (hm : X.mg x = none) (hv : bootBuiltins x = some (.type id)) (hn : x ≠ "__name__") (hdb : (x == ("__debug__" : Str)) = false)
    (he : starEach (e :: es) X.env = (false, eval e X.env) :: starEach es X.env := by rfl) (hpl : (backTo pos (starEach es X.env)).any (·.1) = false := by rfl) : DE X W (.Call (.Name x p) (e :: es) [] pos) (mCallS o m) := by
  obtain ⟨r, hr, k⟩ := hc
  obtain ⟨t, ht, kt⟩ := h
  exact de_of (pe_callTy hr hg hm hv ht hn hdb he hpl) (callS_run (f := .type id) k kt)
theorem df_callB {x : Str} {id : String} {o : List D → Option (List D)} {e : Expr} {es : List Expr} {m : M (List D)} {p pos : Pos} (hc : CallF X (.builtin id) o) (h : DP X W (e :: es) m) (hg : Gl X x) (hm : X.mg x = none) (hv : bootBuiltins x = some (.builtin id)) (hn : x ≠ "__name__") (hdb : (x == ("__debug__" : Str)) = false)
    (he : starEach (e :: es) X.env = (false, eval e X.env) :: starEach es X.env := by rfl) (hpl : (backTo pos (starEach es X.env)).any (·.1) = false := by rfl) : DF X W (.Call (.Name x p) (e :: es) [] pos) (mCallF o m) := by
  obtain ⟨r, hr, k⟩ := hc
  obtain ⟨t, ht, kt⟩ := h
  exact ⟨_, pe_callB hr hg hm hv ht hn hdb he hpl, callF_run (f := .builtin id) k kt⟩
theorem df_callTy {x : Str} {id : String} {o : List D → Option (List D)} {e : Expr} {es : List Expr} {m : M (List D)} {p pos : Pos} (hc : CallF X (.type id) o) (h : DP X W (e :: es) m) (hg : Gl X x) (hm : X.mg x = none) (hv : bootBuiltins x = some (.type id)) (hn : x ≠ "__name__") (hdb : (x == ("__debug__" : Str)) = false)
    (he : starEach (e :: es) X.env = (false, eval e X.env) :: starEach es X.env := by rfl) (hpl : (backTo pos (starEach es X.env)).any (·.1) = false := by rfl) : DF X W (.Call (.Name x p) (e :: es) [] pos) (mCallF o m) := by
  obtain ⟨r, hr, k⟩ := hc
  obtain ⟨t, ht, kt⟩ := h
  exact ⟨_, pe_callTy hr hg hm hv ht hn hdb he hpl, callF_run (f := .type id) k kt⟩
theorem one_arg {c : Ct} {H : Hp} {w : Wd} {d : D} {xs : List V} (h : PRepL c H w [d] xs) : ∃ x, xs = [x] ∧ PRep c H w d x := by
  obtain ⟨y, ys, e, r, e2⟩ := h
  exact ⟨y, by rw [e, show ys = [] from e2], r⟩
theorem two_args {c : Ct} {H : Hp} {w : Wd} {d d' : D} {xs : List V} (h : PRepL c H w [d, d'] xs) : ∃ x y, xs = [x, y] ∧ PRep c H w d x ∧ PRep c H w d' y := by
  obtain ⟨y, ys, e, r, y2, ys2, e2, r2, e3⟩ := h
  exact ⟨y, y2, by rw [e, e2, show ys2 = [] from e3], r, r2⟩
def oLenQ : OC := fun ds => match ds with
  | [.lst xs] => some (.int xs.length)
  | [.tup xs] => some (.int xs.length)
  | _ => none
def oLenS : OC := fun ds => match ds with
  | [.str z] => if Nat.ble z.length 1000000 then some (.int z.length) else none
  | _ => none
theorem callS_lenQ : CallS X (.builtin "len") oLenQ := by
  refine ⟨_, call_len_seq, fun B s σ H w ds d xs Q S ra e q => ?_⟩
  unfold oLenQ at e
  split at e
  · rename_i zs
    cases e
    obtain ⟨x, rfl, a, ys, e1, h1, r1⟩ := one_arg ra
    exact ⟨a, ys, by rw [e1], .inl (SqL.of h1), q _ H w (Wd.le.refl w) S (by rw [r1.length]; exact rfl)⟩
  · rename_i zs
    cases e
    obtain ⟨x, rfl, a, ys, e1, h1, r1⟩ := one_arg ra
    exact ⟨a, ys, by rw [e1], .inr (S.co.sub.sqT h1), q _ H w (Wd.le.refl w) S (by rw [r1.length]; exact rfl)⟩
  · cases e
theorem callS_lenS : CallS X (.builtin "len") oLenS := by
  refine ⟨_, call_len_str, fun B s σ H w ds d xs Q S ra e q => ?_⟩
  unfold oLenS at e
  split at e
  · rename_i z
    split at e
    · rename_i hz
      cases e
      obtain ⟨x, rfl, e1⟩ := one_arg ra
      exact ⟨z, by rw [show x = V.str z from e1], ble_line hz, q _ H w (Wd.le.refl w) S rfl⟩
    · cases e
  · cases e
def oLen : OC := orC oLenQ oLenS
theorem de_len {e : Expr} {m : M (List D)} {p pos : Pos} (hm : X.mg "len" = none) (h : DP X W [e] m) (hg : Gl X "len" := by rfl)
    (he : starEach [e] X.env = (false, eval e X.env) :: starEach [] X.env := by rfl) (hpl : (backTo pos (starEach [] X.env)).any (·.1) = false := by rfl) : DE X W (.Call (.Name "len" p) [e] [] pos) (mCallS oLen m) :=
  de_callB (callS_lenQ.or callS_lenS) h hg hm PySem.boot_len (by decide) (by decide) he hpl
theorem de_bty {x : Str} {id : String} {pos : Pos} (hg : Gl X x) (hm : X.mg x = none) (hv : bootBuiltins x = some (.type id)) (hn : x ≠ "__name__" := by decide) (hd : (x == ("__debug__" : Str)) = false := by decide) : DE X W (.Name x pos) (ret (.ty id)) :=
  de_of (pe_bltn (v := .ty id) hg hm hv rfl hn hd) fun _ _ _ H w Q S h => post_ret h (Wd.le.refl w) S rfl
def tyD : D → String
  | .non => "NoneType"
  | .bl _ => "bool"
  | .int _ => "int"
  | .str _ => "str"
  | .tup _ => "tuple"
  | .lst _ => "list"
  | .dicK _ => "dict"
  | _ => "?"
def isaB (t T : String) : Bool := t == T || (t == "bool" && T == "int")
def isaTs : List String := ["bool", "int", "str", "tuple", "list", "dict"]
def isaXs : List String := ["NoneType", "bool", "int", "str", "tuple", "list", "dict"]
theorem isa_tab : (isaXs.all fun t => isaTs.all fun T => decide (kitB t T = some (isaB t T))) = true := by decide +kernel
theorem isa_kit {K : PySem.W.Frag} {t T : String} (h1 : t ∈ isaXs) (h2 : T ∈ isaTs) : PySem.W.kitOne K (.type t) (.type T) = some (isaB t T) :=
  kit_ty (of_decide_eq_true (List.all_eq_true.mp (List.all_eq_true.mp isa_tab t h1) T h2))
def oIsa : OC := fun ds => match ds with
  | [a, .ty T] => if (isaXs.contains (tyD a) && isaTs.contains T) then some (.bl (isaB (tyD a) T)) else none
  | _ => none
theorem rd_cases {H : Hp} {a : Addr} {u : HO} (h : Rd H a u) : H a = some u ∨ ∃ o, H a = some (.frz o u) := h
theorem tyx_of {c : Ct} {H : Hp} {w : Wd} (s : Sub w.F H) {d : D} {x : V} (h : PRep c H w d x) (k : isaXs.contains (tyD d) = true) : TyX c.K H x (.type (tyD d)) := by
  cases d with
  | non => rw [show x = V.non from h]; exact .base .non
  | bl b => rw [show x = V.bl b from h]; exact .base (.bl b)
  | int b => rw [show x = V.int b from h]; exact .base (.int b)
  | str b => rw [show x = V.str b from h]; exact .base (.str b)
  | tup ds =>
    obtain ⟨a, xs, e, h1, r⟩ := h
    rw [e]
    rcases s.sqT h1 with (h2 | ⟨o, h2⟩) | ⟨o, its, n, hk, hc, _⟩
    · exact .base (.tup h2)
    · exact .fTuple h2
    · exact .kTuple hk hc
  | lst ds =>
    obtain ⟨a, xs, e, h1, r⟩ := h
    rw [e]
    exact .base (.lst h1)
  | dicK ds =>
    obtain ⟨a, xs, e, h1, r⟩ := h
    rw [e]
    rcases h1 with h2 | ⟨o, h2⟩
    · exact .base (.dK h2)
    · exact .fDict h2
  | dicT ds => exact absurd (show isaXs.contains "?" = true from k) (by decide)
  | ty n => exact absurd (show isaXs.contains "?" = true from k) (by decide)
  | ins a b => exact absurd (show isaXs.contains "?" = true from k) (by decide)
  | cel a => exact absurd (show isaXs.contains "?" = true from k) (by decide)
  | scr a => exact absurd (show isaXs.contains "?" = true from k) (by decide)
theorem mem_of_contains {l : List String} {a : String} (h : l.contains a = true) : a ∈ l := by
  rw [List.contains_eq_mem] at h
  exact of_decide_eq_true h
theorem callS_isa : CallS X (.builtin "isinstance") oIsa := by
  refine ⟨_, call_isi, fun B s σ H w ds d xs Q S ra e q => ?_⟩
  unfold oIsa at e
  split at e
  · rename_i a T
    split at e
    · rename_i hk
      rw [Bool.and_eq_true] at hk
      cases e
      obtain ⟨x, y, rfl, h1, h2⟩ := two_args ra
      exact ⟨x, y, _, _, _, rfl, (by rw [show y = V.ty T from h2]; exact .ty T), tyx_of S.co.sub h1 hk.1, isa_kit (mem_of_contains hk.1) (mem_of_contains hk.2), q _ H w (Wd.le.refl w) S rfl⟩
    · cases e
  · cases e
theorem de_isa {e f : Expr} {m : M (List D)} {p pos : Pos} (hm : X.mg "isinstance" = none) (h : DP X W [e, f] m) (hg : Gl X "isinstance" := by rfl)
    (he : starEach [e, f] X.env = (false, eval e X.env) :: starEach [f] X.env := by rfl) (hpl : (backTo pos (starEach [f] X.env)).any (·.1) = false := by rfl) : DE X W (.Call (.Name "isinstance" p) [e, f] [] pos) (mCallS oIsa m) :=
  de_callB callS_isa h hg hm boot_isinstance (by decide) (by decide) he hpl
def oAll : OC := fun ds => match ds with
  | [.lst xs] => (dBools xs).map fun bs => .bl (bs.all id)
  | _ => none
def oAny : OC := fun ds => match ds with
  | [.lst xs] => (dBools xs).map fun bs => .bl (bs.any id)
  | _ => none
theorem callS_all (hc : X.calm = true) : CallS X (.builtin "all") oAll := by
  refine ⟨_, cr_all hc, fun B s σ H w ds d xs Q S ra e q => ?_⟩
  unfold oAll at e
  split at e
  · rename_i zs
    obtain ⟨bs, h1, rfl⟩ := Option.map_eq_some_iff.mp e
    have h2 := dBools_eq h1
    subst h2
    obtain ⟨x, rfl, a, ys, e1, h3, r1⟩ := one_arg ra
    have e3 := repL_bools r1
    subst e3
    exact ⟨a, bs, by rw [e1], SqL.of h3, q _ H w (Wd.le.refl w) S rfl⟩
  · cases e
theorem callS_any (hc : X.calm = true) : CallS X (.builtin "any") oAny := by
  refine ⟨_, cr_any hc, fun B s σ H w ds d xs Q S ra e q => ?_⟩
  unfold oAny at e
  split at e
  · rename_i zs
    obtain ⟨bs, h1, rfl⟩ := Option.map_eq_some_iff.mp e
    have h2 := dBools_eq h1
    subst h2
    obtain ⟨x, rfl, a, ys, e1, h3, r1⟩ := one_arg ra
    have e3 := repL_bools r1
    subst e3
    exact ⟨a, bs, by rw [e1], SqL.of h3, q _ H w (Wd.le.refl w) S rfl⟩
  · cases e
theorem boot_all : bootBuiltins "all" = some (.builtin "all") := by decide +kernel
theorem boot_any : bootBuiltins "any" = some (.builtin "any") := by decide +kernel
theorem boot_sum : bootBuiltins "sum" = some (.builtin "sum") := by decide +kernel
theorem boot_min : bootBuiltins "min" = some (.builtin "min") := by decide +kernel
theorem boot_max : bootBuiltins "max" = some (.builtin "max") := by decide +kernel
theorem boot_abs' : bootBuiltins "abs" = some (.builtin "abs") := by decide +kernel
theorem boot_sorted' : bootBuiltins "sorted" = some (.builtin "sorted") := by decide +kernel
theorem boot_int' : bootBuiltins "int" = some (.type "int") := by decide +kernel
theorem boot_tuple' : bootBuiltins "tuple" = some (.type "tuple") := by decide +kernel
theorem boot_list' : bootBuiltins "list" = some (.type "list") := by decide +kernel
theorem boot_str' : bootBuiltins "str" = some (.type "str") := by decide +kernel
theorem boot_bool' : bootBuiltins "bool" = some (.type "bool") := by decide +kernel
theorem boot_dict' : bootBuiltins "dict" = some (.type "dict") := by decide +kernel
theorem boot_repr' : bootBuiltins "repr" = some (.builtin "repr") := by decide +kernel
section
variable {e f : Expr} {m : M (List D)} {p pos : Pos}
theorem de_all (hm : X.mg "all" = none) (h : DP X W [e] m) (hc : X.calm = true := by rfl) (hg : Gl X "all" := by rfl)
    (he : starEach [e] X.env = (false, eval e X.env) :: starEach [] X.env := by rfl) (hpl : (backTo pos (starEach [] X.env)).any (·.1) = false := by rfl) : DE X W (.Call (.Name "all" p) [e] [] pos) (mCallS oAll m) :=
  de_callB (callS_all hc) h hg hm boot_all (by decide) (by decide) he hpl
theorem de_any (hm : X.mg "any" = none) (h : DP X W [e] m) (hc : X.calm = true := by rfl) (hg : Gl X "any" := by rfl)
    (he : starEach [e] X.env = (false, eval e X.env) :: starEach [] X.env := by rfl) (hpl : (backTo pos (starEach [] X.env)).any (·.1) = false := by rfl) : DE X W (.Call (.Name "any" p) [e] [] pos) (mCallS oAny m) :=
  de_callB (callS_any hc) h hg hm boot_any (by decide) (by decide) he hpl
def oAbs : OC := fun ds => match ds with
  | [.int i] => some (.int (if i < 0 then -i else i))
  | _ => none
def oInt : OC := fun ds => match ds with
  | [.int i] => some (.int i)
  | [.bl b] => some (.int (if b then 1 else 0))
  | _ => none
def oMin2 : OC := fun ds => match ds with
  | [.int i, .int j] => some (.int (if j < i then j else i))
  | _ => none
def oMax2 : OC := fun ds => match ds with
  | [.int i, .int j] => some (.int (if j > i then j else i))
  | _ => none
def oSum : OC := fun ds => match ds with
  | [.lst xs] => (dInts xs).map fun ns => .int ns.sum
  | _ => none
theorem callS_abs : CallS X (.builtin "abs") oAbs := by
  refine ⟨_, call_abs, fun B s σ H w ds d xs Q S ra e q => ?_⟩
  unfold oAbs at e
  split at e
  · rename_i i
    cases e
    obtain ⟨x, rfl, e1⟩ := one_arg ra
    exact ⟨i, by rw [show x = V.int i from e1], q _ H w (Wd.le.refl w) S rfl⟩
  · cases e
theorem callS_int : CallS X (.type "int") oInt := by
  refine ⟨_, call_int1, fun B s σ H w ds d xs Q S ra e q => ?_⟩
  unfold oInt at e
  split at e
  · rename_i i
    cases e
    obtain ⟨x, rfl, e1⟩ := one_arg ra
    exact .inl ⟨i, by rw [show x = V.int i from e1], q _ H w (Wd.le.refl w) S rfl⟩
  · rename_i i
    cases e
    obtain ⟨x, rfl, e1⟩ := one_arg ra
    exact .inr ⟨i, by rw [show x = V.bl i from e1], q _ H w (Wd.le.refl w) S rfl⟩
  · cases e
theorem callS_min2 (hc : X.calm = true) : CallS X (.builtin "min") oMin2 := by
  refine ⟨_, call_min2 hc, fun B s σ H w ds d xs Q S ra e q => ?_⟩
  unfold oMin2 at e
  split at e
  · rename_i i j
    cases e
    obtain ⟨x, y, rfl, e1, e2⟩ := two_args ra
    exact ⟨i, j, by rw [show x = V.int i from e1, show y = V.int j from e2], q _ H w (Wd.le.refl w) S rfl⟩
  · cases e
theorem callS_max2 (hc : X.calm = true) : CallS X (.builtin "max") oMax2 := by
  refine ⟨_, call_max2 hc, fun B s σ H w ds d xs Q S ra e q => ?_⟩
  unfold oMax2 at e
  split at e
  · rename_i i j
    cases e
    obtain ⟨x, y, rfl, e1, e2⟩ := two_args ra
    exact ⟨i, j, by rw [show x = V.int i from e1, show y = V.int j from e2], q _ H w (Wd.le.refl w) S rfl⟩
  · cases e
theorem callS_sum (hc : X.calm = true) : CallS X (.builtin "sum") oSum := by
  refine ⟨_, cr_sum hc, fun B s σ H w ds d xs Q S ra e q => ?_⟩
  unfold oSum at e
  split at e
  · rename_i zs
    obtain ⟨bs, h1, rfl⟩ := Option.map_eq_some_iff.mp e
    have h2 := dInts_eq h1
    subst h2
    obtain ⟨x, rfl, a, ys, e1, h3, r1⟩ := one_arg ra
    have e3 := repL_ints r1
    subst e3
    exact ⟨a, bs, by rw [e1], SqL.of h3, q _ H w (Wd.le.refl w) S rfl⟩
  · cases e
theorem de_abs (hm : X.mg "abs" = none) (h : DP X W [e] m) (hg : Gl X "abs" := by rfl)
    (he : starEach [e] X.env = (false, eval e X.env) :: starEach [] X.env := by rfl) (hpl : (backTo pos (starEach [] X.env)).any (·.1) = false := by rfl) : DE X W (.Call (.Name "abs" p) [e] [] pos) (mCallS oAbs m) :=
  de_callB callS_abs h hg hm boot_abs' (by decide) (by decide) he hpl
theorem de_intc (hm : X.mg "int" = none) (h : DP X W [e] m) (hg : Gl X "int" := by rfl)
    (he : starEach [e] X.env = (false, eval e X.env) :: starEach [] X.env := by rfl) (hpl : (backTo pos (starEach [] X.env)).any (·.1) = false := by rfl) : DE X W (.Call (.Name "int" p) [e] [] pos) (mCallS oInt m) :=
  de_callTy callS_int h hg hm boot_int' (by decide) (by decide) he hpl
theorem de_sum (hm : X.mg "sum" = none) (h : DP X W [e] m) (hc : X.calm = true := by rfl) (hg : Gl X "sum" := by rfl)
    (he : starEach [e] X.env = (false, eval e X.env) :: starEach [] X.env := by rfl) (hpl : (backTo pos (starEach [] X.env)).any (·.1) = false := by rfl) : DE X W (.Call (.Name "sum" p) [e] [] pos) (mCallS oSum m) :=
  de_callB (callS_sum hc) h hg hm boot_sum (by decide) (by decide) he hpl
theorem de_min2 (hm : X.mg "min" = none) (h : DP X W [e, f] m) (hc : X.calm = true := by rfl) (hg : Gl X "min" := by rfl)
    (he : starEach [e, f] X.env = (false, eval e X.env) :: starEach [f] X.env := by rfl) (hpl : (backTo pos (starEach [f] X.env)).any (·.1) = false := by rfl) : DE X W (.Call (.Name "min" p) [e, f] [] pos) (mCallS oMin2 m) :=
  de_callB (callS_min2 hc) h hg hm boot_min (by decide) (by decide) he hpl
theorem de_max2 (hm : X.mg "max" = none) (h : DP X W [e, f] m) (hc : X.calm = true := by rfl) (hg : Gl X "max" := by rfl)
    (he : starEach [e, f] X.env = (false, eval e X.env) :: starEach [f] X.env := by rfl) (hpl : (backTo pos (starEach [f] X.env)).any (·.1) = false := by rfl) : DE X W (.Call (.Name "max" p) [e, f] [] pos) (mCallS oMax2 m) :=
  de_callB (callS_max2 hc) h hg hm boot_max (by decide) (by decide) he hpl
def oTuple : OC := fun ds => match ds with
  | [.lst xs] => some (.tup xs)
  | [.tup xs] => some (.tup xs)
  | _ => none
theorem callS_tuple : CallS X (.type "tuple") oTuple := by
  refine ⟨_, call_tuple_of, fun B s σ H w ds d xs Q S ra e q => ?_⟩
  unfold oTuple at e
  split at e
  · rename_i zs
    cases e
    obtain ⟨x, rfl, a, ys, e1, h1, r1⟩ := one_arg ra
    refine ⟨a, ys, by rw [e1], .inl ⟨SqL.of h1, fun l hl => ?_⟩⟩
    have F0 := S.free_F hl
    exact q _ _ _ (le_newF F0) (S.newF hl) ⟨l, ys, rfl, SqT.of upd_same, RepWL.le (le_newF F0) r1⟩
  · rename_i zs
    cases e
    obtain ⟨x, rfl, a, ys, e1, h1, r1⟩ := one_arg ra
    exact ⟨a, ys, by rw [e1], .inr ⟨S.co.sub.sqT h1, q _ H w (Wd.le.refl w) S ⟨a, ys, rfl, h1, r1⟩⟩⟩
  · cases e
theorem de_tuple (hm : X.mg "tuple" = none) (h : DP X W [e] m) (hg : Gl X "tuple" := by rfl)
    (he : starEach [e] X.env = (false, eval e X.env) :: starEach [] X.env := by rfl) (hpl : (backTo pos (starEach [] X.env)).any (·.1) = false := by rfl) : DE X W (.Call (.Name "tuple" p) [e] [] pos) (mCallS oTuple m) :=
  de_callTy callS_tuple h hg hm boot_tuple' (by decide) (by decide) he hpl
def fList : List D → Option (List D) := fun ds => match ds with
  | [.lst xs] => some xs
  | [.tup xs] => some xs
  | _ => none
theorem callF_list : CallF X (.type "list") fList := by
  refine ⟨_, call_list_of, fun B s σ H w ds d xs Q S ra e q => ?_⟩
  unfold fList at e
  split at e
  · rename_i zs
    cases e
    obtain ⟨x, rfl, a, ys, e1, h1, r1⟩ := one_arg ra
    exact ⟨a, ys, by rw [e1], .inl (SqL.of h1), fun l hl => q _ _ w (Wd.le.refl w) (S.new hl) ⟨l, ys, rfl, upd_same, S.free_F hl, S.free_T hl, r1⟩⟩
  · rename_i zs
    cases e
    obtain ⟨x, rfl, a, ys, e1, h1, r1⟩ := one_arg ra
    exact ⟨a, ys, by rw [e1], .inr (S.co.sub.sqT h1), fun l hl => q _ _ w (Wd.le.refl w) (S.new hl) ⟨l, ys, rfl, upd_same, S.free_F hl, S.free_T hl, r1⟩⟩
  · cases e
theorem df_list (hm : X.mg "list" = none) (h : DP X W [e] m) (hg : Gl X "list" := by rfl)
    (he : starEach [e] X.env = (false, eval e X.env) :: starEach [] X.env := by rfl) (hpl : (backTo pos (starEach [] X.env)).any (·.1) = false := by rfl) : DF X W (.Call (.Name "list" p) [e] [] pos) (mCallF fList m) :=
  df_callTy callF_list h hg hm boot_list' (by decide) (by decide) he hpl
def fSortedI : List D → Option (List D) := fun ds => match ds with
  | [.lst xs] => (dInts xs).map fun ns => (isort ns).map D.int
  | _ => none
theorem callF_sortedI : CallF X (.builtin "sorted") fSortedI := by
  refine ⟨_, cr_sortedI, fun B s σ H w ds d xs Q S ra e q => ?_⟩
  unfold fSortedI at e
  split at e
  · rename_i zs
    obtain ⟨ns, h1, rfl⟩ := Option.map_eq_some_iff.mp e
    have h2 := dInts_eq h1
    subst h2
    obtain ⟨x, rfl, a, ys, e1, h3, r1⟩ := one_arg ra
    have e3 := repL_ints r1
    subst e3
    refine ⟨a, ns, by rw [e1], SqL.of h3, fun ns' l hp hs hl => ?_⟩
    rw [sorted_uniq (hp.trans (isort_perm ns).symm) hs (isort_sorted ns)]
    exact q _ _ w (Wd.le.refl w) (S.new hl) ⟨l, _, rfl, upd_same, S.free_F hl, S.free_T hl, ints_repL _⟩
  · cases e
theorem df_sortedI (hm : X.mg "sorted" = none) (h : DP X W [e] m) (hg : Gl X "sorted" := by rfl)
    (he : starEach [e] X.env = (false, eval e X.env) :: starEach [] X.env := by rfl) (hpl : (backTo pos (starEach [] X.env)).any (·.1) = false := by rfl) : DF X W (.Call (.Name "sorted" p) [e] [] pos) (mCallF fSortedI m) :=
  df_callB callF_sortedI h hg hm boot_sorted' (by decide) (by decide) he hpl
end
end
end DM
set_option Elab.async false
set_option linter.all false
set_option maxRecDepth 100000
set_option maxHeartbeats 400000
namespace DM
open PySem PySem.Spec PyProof.Rows L2
section
variable {X : Cx} {W : WX}
theorem RepL.atI {c : Ct} {F : Hp} {m : List Addr} {ds : List D} {xs : List V} {i : Int} {d : D} (r : RepL c F m ds xs) (e : L2.atI ds i = some d) : ∃ x, L2.atI xs i = some x ∧ Rep c F m d x := by
  unfold L2.atI at e ⊢
  rw [← r.length]
  cases h : ixN ds.length i with
  | none => rw [h] at e; exact nomatch e
  | some j =>
    rw [h] at e
    exact r.get (show ds[j]? = some d from e)
def IxS (X : Cx) (o : O2) : Prop := ∃ r, IxR X r ∧ ∀ B s σ H w a b d x y Q, Sim (XC X) B s σ H w → PRep (XC X) H w a x → PRep (XC X) H w b y → o a b = some d →
    (∀ z H' w', w.le w' → Sim (XC X) B s σ H' w' → RepW (XC X) w' d z → Q z H') → r x y H Q
def oIxQ : O2 := fun a b => match itemsD a, b with
  | some ds, .int i => L2.atI ds i
  | _, _ => none
def oIxS : O2 := fun a b => match a, b with
  | .str z, .int i => if Nat.ble z.length 1000000 then (L2.atI z.cps.toList i).map fun k => .str ⟨#[k]⟩ else none
  | _, _ => none
def oIx : O2 := orO oIxQ oIxS
theorem ixS_seq : IxS X oIx := by
  refine ⟨_, ix_seq, fun B s σ H w a b d x y Q S ra rb e q => ?_⟩
  unfold oIx orO at e
  cases e1 : oIxQ a b with
  | some d1 =>
    rw [e1] at e
    cases e
    unfold oIxQ at e1
    split at e1
    · rename_i ds i h1
      obtain ⟨p, xs, e2, hq, r⟩ := items_sq S.co.sub ra h1
      obtain ⟨v, hv, rv⟩ := r.atI e1
      rcases hq with hq | hq
      · exact .inl ⟨p, xs, i, v, e2, rb, hq, hv, q _ H w (Wd.le.refl w) S rv⟩
      · exact .inr (.inl ⟨p, xs, i, v, e2, rb, hq, hv, q _ H w (Wd.le.refl w) S rv⟩)
    · cases e1
  | none =>
    rw [e1] at e
    have e' : oIxS a b = some d := e
    unfold oIxS at e'
    split at e'
    · rename_i z i
      split at e'
      · rename_i hz
        obtain ⟨k, hk, rfl⟩ := Option.map_eq_some_iff.mp e'
        exact .inr (.inr ⟨z, i, k, ra, rb, ble_line hz, hk, q _ H w (Wd.le.refl w) S rfl⟩)
      · cases e'
    · cases e'
theorem de_ix {a b : Expr} {m : M D} {pos : Pos} (h : D2 X W oIx a b m) (hs : PlainIx b := by intro _ _; rfl) : DE X W (.Subscript a b pos) m := by
  obtain ⟨r, hr, k⟩ := (ixS_seq : IxS X oIx)
  obtain ⟨ta, tb, pa, pb, ⟨ok⟩⟩ := h
  exact de_of (pe_ix hr pa pb hs) (ok r k)
def DO (X : Cx) (W : WX) (e : Option Expr) (m : M (Option Int)) : Prop := ∃ t, PO X e t ∧ ∀ B s σ H w Q, Sim (XC X) B s σ H w → Post (XC X) B W (fun _ a b => a = b) (m s) σ w Q → t σ H Q
def mPart (m : M D) : M (Option Int) := bnd m fun d => match d with
  | .int i => ret (some i)
  | _ => bad
theorem do_none : DO X W none (ret none) := ⟨_, po_none, fun B s σ H w Q S p => post_ret p (Wd.le.refl w) S rfl⟩
theorem do_some {e : Expr} {m : M D} (h : DE X W e m) : DO X W (some e) (mPart m) := by
  obtain ⟨t, ht, k⟩ := h
  refine ⟨_, po_some ht, fun B s σ H w Q S p => k B s σ H w _ S (post_bnd p fun d s1 x H1 w1 _ l1 S1 r1 p1 => ?_)⟩
  cases d with
  | int i => exact ⟨i, r1, post_ret p1 (Wd.le.refl w1) S1 rfl⟩
  | _ => exact p1.elim
def cutD (xs : List D) (lo hi : Option Int) : List D := (xs.drop (HT.sIx xs.length 0 lo)).take (HT.sIx xs.length xs.length hi - HT.sIx xs.length 0 lo)
theorem RepL.cut {c : Ct} {F : Hp} {m : List Addr} {ds : List D} {xs : List V} (r : RepL c F m ds xs) (lo hi : Option Int) : RepL c F m (cutD ds lo hi) (cutV xs lo hi) := by
  unfold cutD cutV
  rw [← r.length]
  exact RepL.take _ (RepL.drop _ r)
def oSl : D → Option Int → Option Int → Option D := fun a lo hi => match a with
  | .lst ds => some (.lst (cutD ds lo hi))
  | .tup ds => some (.tup (cutD ds lo hi))
  | .str z => if Nat.ble z.length 1000000 then some (.str (cutS z lo hi)) else none
  | .scr ns => some (.lst (((ns.map D.int).drop (HT.sIx ns.length 0 lo)).take (HT.sIx ns.length ns.length hi - HT.sIx ns.length 0 lo)))
  | _ => none
theorem cutD_whole {ds : List D} {lo hi : Option Int} (h1 : HT.sIx ds.length 0 lo = 0) (h2 : HT.sIx ds.length ds.length hi = ds.length) : cutD ds lo hi = ds := by
  unfold cutD
  rw [h1, h2, List.drop_zero, Nat.sub_zero, List.take_length]
theorem slS : ∃ r, SlR X r ∧ ∀ B s σ H w a lo hi d x Q, Sim (XC X) B s σ H w → PRep (XC X) H w a x → oSl a lo hi = some d →
    (∀ z H' w', w.le w' → Sim (XC X) B s σ H' w' → RepW (XC X) w' d z → Q z H') → r x lo hi H Q := by
  refine ⟨_, sl_list.or (sl_tupA.or sl_str), fun B s σ H w a lo hi d x Q S ra e q => ?_⟩
  unfold oSl at e
  split at e
  · rename_i ds
    cases e
    obtain ⟨p, xs, e1, h1, r1⟩ := ra
    refine .inl ⟨p, xs, e1, SqL.of h1, fun l hl => ?_⟩
    have F0 := S.free_F hl
    exact q _ _ _ (le_newF F0) (S.newF hl) ⟨l, _, rfl, upd_same, RepWL.le (le_newF F0) (RepL.cut r1 lo hi)⟩
  · rename_i ds
    cases e
    obtain ⟨p, xs, e1, h1, r1⟩ := ra
    refine .inr (.inl ⟨p, xs, e1, S.co.sub.sqT h1, fun hw => ?_, fun _ l hl => ?_⟩)
    · have hl := r1.length
      rw [cutD_whole (by rw [hl]; exact hw.1) (by rw [hl]; exact hw.2)] at q
      exact q _ H w (Wd.le.refl w) S ⟨p, xs, rfl, h1, r1⟩
    · have F0 := S.free_F hl
      exact q _ _ _ (le_newF F0) (S.newF hl) ⟨l, _, rfl, SqT.of upd_same, RepWL.le (le_newF F0) (RepL.cut r1 lo hi)⟩
  · rename_i z
    split at e
    · rename_i hz
      cases e
      exact .inr (.inr ⟨z, ra, ble_line hz, q _ H w (Wd.le.refl w) S rfl⟩)
    · cases e
  · rename_i ns
    cases e
    obtain ⟨p, e1, h1⟩ := ra
    refine .inl ⟨p, _, e1, h1, fun l hl => ?_⟩
    have F0 := S.free_F hl
    refine q _ _ _ (le_newF F0) (S.newF hl) ⟨l, _, rfl, upd_same, ?_⟩
    unfold cutV
    rw [List.length_map]
    exact RepL.take _ (RepL.drop _ (ints_repL ns))
  · cases e
def mSl (ma : M D) (ml mh : M (Option Int)) : M D := bnd ma fun a => bnd ml fun lo => bnd mh fun hi => fun s => fin (oSl (deref s a) lo hi) s
theorem de_slice {a : Expr} {lo hi : Option Expr} {ma : M D} {ml mh : M (Option Int)} {p2 pos : Pos} (ha : DE X W a ma) (hl : DO X W lo ml) (hh : DO X W hi mh) : DE X W (.Subscript a (.Slice lo hi none p2) pos) (mSl ma ml mh) := by
  obtain ⟨r, hr, k⟩ := (slS (X := X))
  obtain ⟨ta, pa, ka⟩ := ha
  obtain ⟨tl, pl, kl⟩ := hl
  obtain ⟨th, ph, kh⟩ := hh
  refine de_of (pe_slice hr pa pl ph) fun B s σ H w Q S p => ?_
  refine ka B s σ H w _ S (post_bnd p fun d s1 x H1 w1 _ l1 S1 r1 p1 => ?_)
  refine kl B s1 σ H1 w1 _ S1 (post_bnd p1 fun o1 s2 o1' H2 w2 _ l2 S2 r2 p2 => ?_)
  subst r2
  refine kh B s2 σ H2 w2 _ S2 (post_bnd p2 fun o2 s3 o2' H3 w3 _ l3 S3 r3 p3 => ?_)
  subst r3
  obtain ⟨d3, e3, k3⟩ := post_fin p3
  exact k B s3 σ H3 w3 _ o1 o2 d3 x Q S3 (PRep.deref S3 (RepW.le (l2.trans l3) r1)) e3 k3
def mSlN (i : Nat) (ml mh : M (Option Int)) : M D := fun s => match peek s i with
  | some _ => bnd ml (fun lo => bnd mh fun hi => fun s => match peek s i with
    | some a => fin (oSl a lo hi) s
    | none => .bad) s
  | none => .bad
theorem de_sliceN (i : Nat) {x : Str} {lo hi : Option Expr} {ml mh : M (Option Int)} {p1 p2 pos : Pos} (hl : DO X W lo ml) (hh : DO X W hi mh) (hN : X.N[i]? = some x := by rfl) (hv : Vis X.env.scope x := by first | exact Or.inl rfl | exact Or.inr (Or.inl rfl) | exact Or.inr (Or.inr rfl))
    (hd : (x == ("__debug__" : Str)) = false := by decide) (hcd : (x == ("__classdict__" : Str)) = false := by decide) : DE X W (.Subscript (.Name x p1) (.Slice lo hi none p2) pos) (mSlN i ml mh) := by
  obtain ⟨r, hr, k⟩ := (slS (X := X))
  obtain ⟨tl, pl, kl⟩ := hl
  obtain ⟨th, ph, kh⟩ := hh
  refine de_of (pe_slice hr (pv_at i hN hv hd hcd) pl ph) fun B s σ H w Q S p => ?_
  unfold mSlN at p
  cases e0 : peek s i with
  | none => rw [e0] at p; exact p.elim
  | some a0 =>
    rw [e0] at p
    obtain ⟨x0, hx0, _⟩ := PRep.peek S e0
    refine ⟨x0, hx0, ?_⟩
    refine kl B s σ H w _ S (post_bnd p fun o1 s2 o1' H2 w2 _ l2 S2 r2 p2 => ?_)
    subst r2
    refine kh B s2 σ H2 w2 _ S2 (post_bnd p2 fun o2 s3 o2' H3 w3 _ l3 S3 r3 p3 => ?_)
    subst r3
    cases e1 : peek s3 i with
    | none => rw [e1] at p3; exact p3.elim
    | some a1 =>
      rw [e1] at p3
      obtain ⟨x1, hx1, r1⟩ := PRep.peek S3 e1
      rw [hx0] at hx1
      cases hx1
      obtain ⟨d3, e3, k3⟩ := post_fin p3
      exact k B s3 σ H3 w3 _ o1 o2 d3 x0 Q S3 r1 e3 k3
theorem RepF.lookup {c : Ct} {F : Hp} {m : List Addr} {f : Str} {d : D} : ∀ {fs : List (Str × D)} {xs : List (Str × V)}, RepF c F m fs xs → fs.lookup f = some d → ∃ x, xs.lookup f = some x ∧ Rep c F m d x
  | (k, e) :: r, _, ⟨y, ys, q, h, hr⟩, hl => by
    subst q
    rw [List.lookup_cons] at hl ⊢
    cases hk : (f == k) with
    | true => rw [hk] at hl; cases hl; exact ⟨y, rfl, h⟩
    | false => rw [hk] at hl; exact RepF.lookup hr hl
def mFld (cn f : Str) (m : M D) : M D := bnd m fun d => match d with
  | .ins c fs => if c = cn then (match fs.lookup f with
    | some v => ret v
    | none => bad) else bad
  | _ => bad
structure ClsF (K : PySem.W.Frag) (mg : Str → Option Value) (cn : Str) (C : Addr) : Prop where
  mg_ : mg cn = some (.ref C)
  cl : Cls K C
theorem de_fld {cn f : Str} {C : Addr} {e : Expr} {m : M D} {pos : Pos} (T : ClsF X.K X.mg cn C) (hn : NoAttr X.K C f) (h : DE X W e m) (hb : attributeBase e f X.env (eval e X.env) = eval e X.env := by rfl) : DE X W (.Attribute e f pos) (mFld cn f m) := by
  obtain ⟨t, ht, k⟩ := h
  refine de_of (pe_fld ht hb) fun B s σ H w Q S p => k B s σ H w _ S (post_bnd p fun d s1 x H1 w1 _ l1 S1 r1 p1 => ?_)
  cases d with
  | ins c fs =>
    have p2 : Post (XC X) B W (RepW (XC X)) ((if c = cn then (match fs.lookup f with
      | some v => ret v
      | none => bad) else bad : M D) s1) σ w1 Q := p1
    split at p2
    · rename_i hc
      subst hc
      obtain ⟨a, C', dx, xs, e1, g, h1, h2, r⟩ := r1
      have g' : X.mg c = some (.ref C') := g
      rw [T.mg_] at g'
      cases g'
      cases hl : fs.lookup f with
      | none => rw [hl] at p2; exact p2.elim
      | some v =>
        rw [hl] at p2
        obtain ⟨z, hz, rz⟩ := RepF.lookup r hl
        exact ⟨a, C, dx, xs, z, e1, S1.co.sub.at h1 rfl, T.cl, hn, hz, post_ret p2 (Wd.le.refl w1) S1 rz⟩
    · exact p2.elim
  | _ => exact p1.elim
def getL (s : S) (i : Nat) : Option (List D) := match s.env[i]? with
  | some (some (.own ds)) => some ds
  | some (some (.val (.cel n))) => (match s.cells[n]? with
    | some (.lst ds) => some ds
    | _ => none)
  | _ => none
def putL (s : S) (i : Nat) (ds : List D) : S := match s.env[i]? with
  | some (some (.val (.cel n))) => ⟨s.env, s.cells.set n (.lst ds)⟩
  | _ => ⟨s.env.set i (some (.own ds)), s.cells⟩
theorem Sim.getL {c : Ct} {B : Bs} {s : S} {σ : L2.St} {H : Hp} {w : Wd} (S : Sim c B s σ H w) {i : Nat} {ds : List D} (h : getL s i = some ds) :
    ∃ a xs, σ[i]? = some (some (.ref a)) ∧ H a = some (.lst xs) ∧ RepWL c w ds xs ∧ ∀ ds' xs', RepWL c w ds' xs' → Sim c B (putL s i ds') σ (upd H a (.lst xs')) w := by
  unfold DM.getL at h
  unfold DM.putL
  cases e : s.env[i]? with
  | none => rw [e] at h; cases h
  | some o =>
    rw [e] at h
    cases o with
    | none => cases h
    | some t =>
      obtain ⟨x, hx, k⟩ := S.sl i t e
      cases t with
      | own es =>
        cases h
        obtain ⟨a, xs, e1, ht, h1, r⟩ := k
        subst e1
        exact ⟨a, xs, hx, h1, r, fun ds' xs' r' => S.mutOwn hx ht ⟨a, xs', rfl, ht, upd_same, r'⟩⟩
      | ownK es => cases h
      | ownT es => cases h
      | exn _ _ => cases h
      | ownI _ _ => cases h
      | val d =>
        cases d with
        | cel n =>
          have h' : (match s.cells[n]? with
            | some (.lst ds) => some ds
            | _ => none) = some ds := h
          cases e2 : s.cells[n]? with
          | none => rw [e2] at h'; cases h'
          | some cl =>
            rw [e2] at h'
            cases cl with
            | lst es =>
              cases h'
              obtain ⟨a, k1, k2, xs, k3, k4⟩ := S.co.at_ n _ e2
              obtain ⟨a', j1, j2⟩ := k
              rw [k1] at j1
              cases j1
              subst j2
              exact ⟨a, xs, hx, k3, k4, fun ds' xs' r' => S.mutCell k1 k2 ⟨xs', upd_same, r'⟩⟩
            | _ => cases h'
        | _ => cases h
def MutS (X : Cx) (id : String) (f : List D → List D → Option (D × List D)) : Prop := ∃ r, MtR X id r ∧ ∀ B s σ H w a xs ds as ys v ds' Q, Sim (XC X) B s σ H w → H a = some (.lst xs) → RepWL (XC X) w ds xs → RepWL (XC X) w as ys → f ds as = some (v, ds') →
  (∀ z xs', RepWL (XC X) w ds' xs' → RepW (XC X) w v z → Q z (upd H a (.lst xs'))) → r (.ref a) ys H Q
def mMut (f : List D → List D → Option (D × List D)) (i : Nat) (m : M (List D)) : M D := fun s => match getL s i with
  | some _ => bnd m (fun as => fun s => match getL s i with
    | some ds => (match f ds as with
      | some (v, ds') => .ok v (putL s i ds')
      | none => .bad)
    | none => .bad) s
  | none => .bad
theorem de_mut (i : Nat) {f : List D → List D → Option (D × List D)} {x name : Str} {id : String} {e : Expr} {es : List Expr} {m : M (List D)} {p apos cpos : Pos} (hf : MutS X id f) (slot : PySem.Slot "list" name id) (hty : typeOf (.builtin id) = pure (.type "method_descriptor")) (ha : DA X W (e :: es) m)
    (hN : X.N[i]? = some x := by rfl) (hv : Vis X.env.scope x := by first | exact Or.inl rfl | exact Or.inr (Or.inl rfl) | exact Or.inr (Or.inr rfl)) (hd : (x == ("__debug__" : Str)) = false := by decide) (hcd : (x == ("__classdict__" : Str)) = false := by decide)
    (hbase : attributeBase (.Name x p) name X.env (eval (.Name x p) X.env) = eval (.Name x p) X.env := by rfl)
    (hfew : ((backTo cpos (starEach (e :: es) X.env)).all (fun x => !x.1) && (backToKw cpos (keywordEach [] X.env)).all (fun x => x.1.isSome)
      && decide ((e :: es).length + ([] : List Keyword).length + (if ([] : List Keyword).isEmpty then 0 else 1) < 30)) = true := by rfl)
    (hline : (apos.endLine == cpos.line) = true := by rfl) (hs : starEach (e :: es) X.env = (false, eval e X.env) :: starEach es X.env := by rfl) (hplain : (backTo cpos (starEach es X.env)).any (·.1) = false := by rfl) :
    DE X W (.Call (.Attribute (.Name x p) name apos) (e :: es) [] cpos) (mMut f i m) := by
  obtain ⟨r, hr, k⟩ := hf
  obtain ⟨t, ht, kt⟩ := ha
  refine de_of (pe_bm PySem.F.plainAttrs_list slot hty hr (pv_at i hN hv hd hcd) ht hbase hfew hline hs hplain) fun B s σ H w Q S p => ?_
  unfold mMut at p
  cases e0 : getL s i with
  | none => rw [e0] at p; exact p.elim
  | some ds0 =>
    rw [e0] at p
    obtain ⟨a, xs0, hx, h1, _, _⟩ := S.getL e0
    refine ⟨.ref a, hx, .inl ⟨rfl, xs0, SqL.of h1⟩, kt B s σ H w _ S (post_bnd p fun as s1 ys H1 w1 _ l1 S1 r1 p1 => ?_)⟩
    cases e1 : getL s1 i with
    | none => rw [e1] at p1; exact p1.elim
    | some ds =>
      rw [e1] at p1
      obtain ⟨a', xs, hx', h2, r2, upd2⟩ := S1.getL e1
      rw [hx] at hx'
      cases hx'
      cases e2 : f ds as with
      | none => have p2 := p1; simp only [e2] at p2; exact p2.elim
      | some vd =>
        obtain ⟨v, ds'⟩ := vd
        have p2 := p1
        simp only [e2] at p2
        exact k B s1 σ H1 w1 a xs ds _ ys v ds' Q S1 h2 r2 r1 e2 fun z xs' r3 rz => p2 z _ w1 (Wd.le.refl w1) (upd2 ds' xs' r3) rz
def mMut0 (f : List D → List D → Option (D × List D)) (i : Nat) : M D := fun s => match getL s i with
  | some ds => (match f ds [] with
    | some (v, ds') => .ok v (putL s i ds')
    | none => .bad)
  | none => .bad
theorem de_mut0 (i : Nat) {f : List D → List D → Option (D × List D)} {x name : Str} {id : String} {p apos cpos : Pos} (hf : MutS X id f) (slot : PySem.Slot "list" name id) (hty : typeOf (.builtin id) = pure (.type "method_descriptor"))
    (hN : X.N[i]? = some x := by rfl) (hv : Vis X.env.scope x := by first | exact Or.inl rfl | exact Or.inr (Or.inl rfl) | exact Or.inr (Or.inr rfl)) (hd : (x == ("__debug__" : Str)) = false := by decide) (hcd : (x == ("__classdict__" : Str)) = false := by decide)
    (hbase : attributeBase (.Name x p) name X.env (eval (.Name x p) X.env) = eval (.Name x p) X.env := by rfl) (hline : (apos.endLine == cpos.line) = true := by rfl) :
    DE X W (.Call (.Attribute (.Name x p) name apos) [] [] cpos) (mMut0 f i) := by
  obtain ⟨r, hr, k⟩ := hf
  refine de_of (pe_bm0 PySem.F.plainAttrs_list slot hty hr (pv_at i hN hv hd hcd) hbase hline) fun B s σ H w Q S p => ?_
  unfold mMut0 at p
  cases e0 : getL s i with
  | none => rw [e0] at p; exact p.elim
  | some ds =>
    rw [e0] at p
    obtain ⟨a, xs, hx, h1, r2, upd2⟩ := S.getL e0
    cases e2 : f ds [] with
    | none => have p2 := p; simp only [e2] at p2; exact p2.elim
    | some vd =>
      obtain ⟨v, ds'⟩ := vd
      have p2 := p
      simp only [e2] at p2
      exact ⟨.ref a, hx, .inl ⟨rfl, xs, SqL.of h1⟩, k B s σ H w a xs ds [] [] v ds' Q S h1 r2 rfl e2 fun z xs' r3 rz => p2 z _ w (Wd.le.refl w) (upd2 ds' xs' r3) rz⟩
theorem small_lt {ds : List D} {n : Nat} (h : small ds = true) (e : ds.length = n) : n < sizeLine := by
  have := Nat.le_of_ble_eq_true h
  rw [← e]
  exact Nat.lt_of_le_of_lt this (by decide)
theorem ble_lt {n : Nat} (h : Nat.ble n 1000000 = true) : n < sizeLine := Nat.lt_of_le_of_lt (Nat.le_of_ble_eq_true h) (by decide)
def fAppend : List D → List D → Option (D × List D) := fun ds as => match as with
  | [v] => if small ds then some (.non, ds ++ [v]) else none
  | _ => none
theorem one_rep {c : Ct} {w : Wd} {d : D} {xs : List V} (h : RepWL c w [d] xs) : ∃ x, xs = [x] ∧ RepW c w d x := by
  obtain ⟨y, ys, e, r, e2⟩ := h
  exact ⟨y, by rw [e, show ys = [] from e2], r⟩
theorem two_rep {c : Ct} {w : Wd} {d d' : D} {xs : List V} (h : RepWL c w [d, d'] xs) : ∃ x y, xs = [x, y] ∧ RepW c w d x ∧ RepW c w d' y := by
  obtain ⟨y, ys, e, r, y2, ys2, e2, r2, e3⟩ := h
  exact ⟨y, y2, by rw [e, e2, show ys2 = [] from e3], r, r2⟩
theorem mut_append : MutS X "list.append" fAppend := by
  refine ⟨_, mt_append, fun B s σ H w a xs ds as ys v ds' Q S h1 r ra e q => ?_⟩
  unfold fAppend at e
  split at e
  · rename_i d
    split at e
    · rename_i hz
      cases e
      obtain ⟨y, rfl, ry⟩ := one_rep ra
      exact ⟨a, xs, y, rfl, rfl, h1, small_lt hz r.length, q .non _ (RepL.append r (RepL.one ry)) rfl⟩
    · cases e
  · cases e
def fInsert : List D → List D → Option (D × List D) := fun ds as => match as with
  | [.int i, v] => if (small ds && decide (0 ≤ i) && decide (i < 2 ^ 63)) then some (.non, ds.take i.toNat ++ [v] ++ ds.drop i.toNat) else none
  | _ => none
theorem mut_insert : MutS X "list.insert" fInsert := by
  refine ⟨_, mt_insert, fun B s σ H w a xs ds as ys v ds' Q S h1 r ra e q => ?_⟩
  unfold fInsert at e
  split at e
  · rename_i i d
    split at e
    · rename_i hz
      cases e
      rw [Bool.and_eq_true, Bool.and_eq_true] at hz
      obtain ⟨y1, y2, rfl, r1, r2⟩ := two_rep ra
      exact ⟨a, xs, i, y2, rfl, by rw [show y1 = V.int i from r1], h1, small_lt hz.1.1 r.length, of_decide_eq_true hz.1.2, of_decide_eq_true hz.2, q .non _ (RepL.append (RepL.append (RepL.take _ r) (RepL.one r2)) (RepL.drop _ r)) rfl⟩
    · cases e
  · cases e
def fExtend : List D → List D → Option (D × List D) := fun ds as => match as with
  | [.lst es] => if small (ds ++ es) then some (.non, ds ++ es) else none
  | _ => none
theorem mut_extend : MutS X "list.extend" fExtend := by
  refine ⟨_, mt_extend, fun B s σ H w a xs ds as ys v ds' Q S h1 r ra e q => ?_⟩
  unfold fExtend at e
  split at e
  · rename_i es
    split at e
    · rename_i hz
      cases e
      obtain ⟨y, rfl, b, zs, e1, h2, r2⟩ := one_rep ra
      exact ⟨a, b, xs, zs, rfl, by rw [e1], h1, S.co.sub.at h2 rfl, small_line hz (by rw [List.length_append, r.length, r2.length]), q .non _ (RepL.append r r2) rfl⟩
    · cases e
  · cases e
theorem RepL.dropLast {c : Ct} {F : Hp} {m : List Addr} : ∀ {ds : List D} {xs : List V}, RepL c F m ds xs → RepL c F m ds.dropLast xs.dropLast
  | ds, xs, h => by
    rw [List.dropLast_eq_take, List.dropLast_eq_take, ← h.length]
    exact RepL.take _ h
theorem RepL.eraseIdx {c : Ct} {F : Hp} {m : List Addr} : ∀ {ds : List D} {xs : List V} (i : Nat), RepL c F m ds xs → RepL c F m (ds.eraseIdx i) (xs.eraseIdx i)
  | [], xs, _, h => by rw [show xs = [] from h]; exact rfl
  | d :: ds, _, 0, ⟨y, ys, e, h, r⟩ => by subst e; exact r
  | d :: ds, _, i + 1, ⟨y, ys, e, h, r⟩ => by subst e; exact ⟨y, ys.eraseIdx i, rfl, h, RepL.eraseIdx i r⟩
def fPop : List D → List D → Option (D × List D) := fun ds as => match as with
  | [] => (match ds[ds.length - 1]? with
    | some v => some (v, ds.dropLast)
    | none => none)
  | _ => none
theorem mut_pop : MutS X "list.pop" fPop := by
  refine ⟨_, mt_pop, fun B s σ H w a xs ds as ys v ds' Q S h1 r ra e q => ?_⟩
  unfold fPop at e
  split at e
  · split at e
    · rename_i d hd
      cases e
      obtain ⟨y, hy, ry⟩ := r.get hd
      exact ⟨a, xs, y, rfl, ra, h1, by rw [← r.length]; exact hy, q y _ (RepL.dropLast r) ry⟩
    · cases e
  · cases e
def fPopAt : List D → List D → Option (D × List D) := fun ds as => match as with
  | [.int i] => if (decide (-(2 ^ 63) ≤ i) && decide (i < 2 ^ 63)) then (match seqIndex? i ds.length with
    | some k => (match ds[k]? with
      | some v => some (v, ds.eraseIdx k)
      | none => none)
    | none => none) else none
  | _ => none
theorem mut_popAt : MutS X "list.pop" fPopAt := by
  refine ⟨_, mt_popAt, fun B s σ H w a xs ds as ys v ds' Q S h1 r ra e q => ?_⟩
  unfold fPopAt at e
  split at e
  · rename_i i
    split at e
    · rename_i hb
      rw [Bool.and_eq_true] at hb
      split at e
      · rename_i k hk
        split at e
        · rename_i d hd
          cases e
          obtain ⟨z, rfl, rz⟩ := one_rep ra
          obtain ⟨y, hy, ry⟩ := r.get hd
          exact ⟨a, xs, i, k, y, rfl, by rw [show z = V.int i from rz], h1, of_decide_eq_true hb.1, of_decide_eq_true hb.2, by rw [← r.length]; exact hk, hy, q y _ (RepL.eraseIdx k r) ry⟩
        · cases e
      · cases e
    · cases e
  · cases e
def fClear : List D → List D → Option (D × List D) := fun _ as => match as with
  | [] => some (.non, [])
  | _ => none
theorem mut_clear : MutS X "list.clear" fClear := by
  refine ⟨_, mt_clear, fun B s σ H w a xs ds as ys v ds' Q S h1 r ra e q => ?_⟩
  unfold fClear at e
  split at e
  · cases e
    exact ⟨a, xs, rfl, ra, h1, q .non [] rfl rfl⟩
  · cases e
theorem de_append (i : Nat) {x : Str} {e : Expr} {m : M (List D)} {p apos cpos : Pos} (ha : DA X W [e] m)
    (hN : X.N[i]? = some x := by rfl) (hv : Vis X.env.scope x := by first | exact Or.inl rfl | exact Or.inr (Or.inl rfl) | exact Or.inr (Or.inr rfl)) (hd : (x == ("__debug__" : Str)) = false := by decide) (hcd : (x == ("__classdict__" : Str)) = false := by decide)
    (hbase : attributeBase (.Name x p) "append" X.env (eval (.Name x p) X.env) = eval (.Name x p) X.env := by rfl)
    (hfew : ((backTo cpos (starEach [e] X.env)).all (fun x => !x.1) && (backToKw cpos (keywordEach [] X.env)).all (fun x => x.1.isSome)
      && decide ([e].length + ([] : List Keyword).length + (if ([] : List Keyword).isEmpty then 0 else 1) < 30)) = true := by rfl)
    (hline : (apos.endLine == cpos.line) = true := by rfl) (hs : starEach [e] X.env = (false, eval e X.env) :: starEach [] X.env := by rfl) (hplain : (backTo cpos (starEach [] X.env)).any (·.1) = false := by rfl) :
    DE X W (.Call (.Attribute (.Name x p) "append" apos) [e] [] cpos) (mMut fAppend i m) := de_mut i mut_append PySem.F.slot_list_append PySem.F.type_list_append ha hN hv hd hcd hbase hfew hline hs hplain
theorem ds_of {st : Stmt} {m : MS} {t : TS} (h : PS X st t) (k : ∀ B s σ H w D, Sim (XC X) B s σ H w → PostS (XC X) B W (m s) w D → t D σ H) : DS X W st m := ⟨t, h, k⟩
def mNext : MS := fun s => .ok .nx s
def mSeq (a b : MS) : MS := fun s => match a s with
  | .ok .nx s' => b s'
  | r => r
theorem dss_nil : DSs X W [] mNext := ⟨_, pss_nil, fun B s σ H w D S p => p σ H w (Wd.le.refl w) S⟩
theorem dss_one {st : Stmt} {m : MS} (h : DS X W st m) : DSs X W [st] m := by
  obtain ⟨t, ht, k⟩ := h
  exact ⟨t, pss_one ht, k⟩
theorem dss_cons {st : Stmt} {rest : List Stmt} {m n : MS} (h : DS X W st m) (h2 : DSs X W rest n) : DSs X W (st :: rest) (mSeq m n) := by
  obtain ⟨t, ht, k⟩ := h
  obtain ⟨u, hu, k2⟩ := h2
  refine ⟨_, pss_cons ht hu, fun B s σ H w D S p => k B s σ H w _ S ?_⟩
  unfold mSeq at p
  cases e : m s with
  | ok f s1 =>
    rw [e] at p
    cases f with
    | nx => exact fun σ' H' w' l S' => k2 B s1 σ' H' w' D S' (PostS.up p l)
    | bk => exact p
    | ct => exact p
    | rt d => exact p
  | exc ex s1 => rw [e] at p; exact p
  | bad => rw [e] at p; exact p
theorem ds_pass {pos : Pos} : DS X W (.Pass pos) mNext := ds_of ps_pass fun B s σ H w D S p => p σ H w (Wd.le.refl w) S
theorem ds_break {pos : Pos} : DS X W (.Break pos) (fun s => .ok .bk s) := ds_of ps_break fun B s σ H w D S p => p σ H w (Wd.le.refl w) S
theorem ds_cont {pos : Pos} : DS X W (.Continue pos) (fun s => .ok .ct s) := ds_of ps_continue fun B s σ H w D S p => p σ H w (Wd.le.refl w) S
def mExpr (m : M D) : MS := bnd m fun _ => mNext
theorem ds_expr {e : Expr} {m : M D} {pos : Pos} (h : DE X W e m) (hs : swapsWith e none pos.line X.env = pure false := by rfl) : DS X W (.Expr e pos) (mExpr m) := by
  obtain ⟨t, ht, k⟩ := h
  exact ds_of (ps_expr ht hs) fun B s σ H w D S p => k B s σ H w _ S (posts_bnd (f := fun _ => mNext) p fun d s1 x H1 w1 _ l1 S1 r1 p1 => p1 σ H1 w1 (Wd.le.refl w1) S1)
def mRet (m : M D) : MS := bnd m fun d => fun s => .ok (.rt d) s
theorem ds_ret {e : Expr} {m : M D} {pos : Pos} (h : DE X W e m) : DS X W (.Return (some e) pos) (mRet m) := by
  obtain ⟨t, ht, k⟩ := h
  exact ds_of (ps_ret ht) fun B s σ H w D S p => k B s σ H w _ S (posts_bnd (f := fun d => fun s => .ok (.rt d) s) p fun d s1 x H1 w1 _ l1 S1 r1 p1 => p1 x σ H1 w1 (Wd.le.refl w1) S1 r1)
theorem ds_retN {pos : Pos} : DS X W (.Return none pos) (fun s => .ok (.rt .non) s) := ds_of ps_retN fun B s σ H w D S p => p .non σ H w (Wd.le.refl w) S rfl
def mIfS (t : M Bool) (a b : MS) : MS := bnd t fun c => if c then a else b
theorem ds_if {c : Expr} {a b : List Stmt} {t : M Bool} {ma mb : MS} {pos : Pos} (hc : DT X W c t) (ha : DSs X W a ma) (hb : DSs X W b mb) : DS X W (.If c a b pos) (mIfS t ma mb) := by
  obtain ⟨tc, pc, kc⟩ := hc
  obtain ⟨ta, pa, ka⟩ := ha
  obtain ⟨tb, pb, kb⟩ := hb
  refine ds_of (ps_if pc pa pb) fun B s σ H w D S p => kc B s σ H w _ S (posts_bnd (R := fun _ a b => a = b) (f := fun c : Bool => (if c then ma else mb : MS)) p fun d s1 x H1 w1 _ l1 S1 r1 p1 => ?_)
  subst r1
  cases d with
  | true => exact ka B s1 σ H1 w1 D S1 p1
  | false => exact kb B s1 σ H1 w1 D S1 p1
theorem ds_never {st : Stmt} : DS X W st (fun _ => .bad) := ds_of ps_never fun B s σ H w D S p => p.elim
theorem dss_never {sts : List Stmt} : DSs X W sts (fun _ => .bad) := ⟨_, pss_never, fun B s σ H w D S p => p.elim⟩
def mSet (i : Nat) (m : M D) : MS := bnd m fun d => fun s => .ok .nx ⟨s.env.set i (some (.val d)), s.cells⟩
theorem ds_set {i : Nat} {x : Str} {e : Expr} {m : M D} {pos' pos : Pos} (h : DE X W e m) (hN : X.N.Nodup) (hi : X.N[i]? = some x := by rfl) (hx : Loc X.env.scope x := by first | exact Or.inl rfl | exact Or.inr rfl) (hs : swapsWith e (some (.Name x pos')) pos.line X.env = pure false := by rfl)
    (hf : X.fn x = true ∨ X.env.scope.names.lookup x = some .local := by first | exact Or.inl rfl | exact Or.inr rfl) : DS X W (.Assign [.Name x pos'] e pos) (mSet i m) := by
  obtain ⟨t, ht, k⟩ := h
  exact ds_of (ps_set hN hi hx ht hs hf) fun B s σ H w D S p => k B s σ H w _ S (posts_bnd (f := fun d => fun s => .ok .nx ⟨s.env.set i (some (.val d)), s.cells⟩) p fun d s1 x H1 w1 _ l1 S1 r1 p1 => p1 _ H1 w1 (Wd.le.refl w1) (S1.setVal r1))
def mSetO (i : Nat) (m : M (List D)) : MS := bnd m fun ds => fun s => .ok .nx ⟨s.env.set i (some (.own ds)), s.cells⟩
theorem postsF {c : Ct} {B : Bs} {m : M (List D)} {f : List D → MS} {s : S} {w : Wd} {σ : L2.St} {D : Ends} {Q : V → Hp → Prop} (h : PostS c B W (bnd m f s) w D)
    (k : ∀ ds s1 x H1 w1, m s = .ok ds s1 → w.le w1 → Sim c B s1 σ H1 w1 → RFr c H1 w1 ds x → PostS c B W (f ds s1) w1 D → Q x H1) : PostF c B W (m s) σ w Q := by
  unfold bnd at h
  cases e : m s with
  | ok a s1 =>
    rw [e] at h
    exact fun x H1 w1 l S1 r => k a s1 x H1 w1 e l S1 r (PostS.up h l)
  | exc ex s1 => rw [e] at h; exact h
  | bad => rw [e] at h; exact h
theorem RFr.own {c : Ct} {B : Bs} {s : S} {σ : L2.St} {H : Hp} {w : Wd} {ds : List D} {x : V} {i : Nat} (S : Sim c B s σ H w) (r : RFr c H w ds x) : ∃ w', w.le w' ∧ Sim c B ⟨s.env.set i (some (.own ds)), s.cells⟩ (σ.set i (some x)) H w' := by
  obtain ⟨a, xs, e, h1, h2, h3, r⟩ := r
  subst e
  exact ⟨⟨w.F, w.m, fun b => if b = a then some (.slot i) else w.T b⟩, ⟨Sub.refl _, List.prefix_refl _⟩, S.setOwn (t0 := .own ds) h1 h2 h3 ⟨a, xs, rfl, if_pos rfl, h1, r⟩⟩
theorem ds_setO {i : Nat} {x : Str} {e : Expr} {m : M (List D)} {pos' pos : Pos} (h : DF X W e m) (hN : X.N.Nodup) (hi : X.N[i]? = some x := by rfl) (hx : Loc X.env.scope x := by first | exact Or.inl rfl | exact Or.inr rfl) (hs : swapsWith e (some (.Name x pos')) pos.line X.env = pure false := by rfl)
    (hf : X.fn x = true ∨ X.env.scope.names.lookup x = some .local := by first | exact Or.inl rfl | exact Or.inr rfl) : DS X W (.Assign [.Name x pos'] e pos) (mSetO i m) := by
  obtain ⟨t, ht, k⟩ := h
  refine ds_of (ps_set hN hi hx ht hs hf) fun B s σ H w D S p => k B s σ H w _ S (postsF (f := fun ds => fun s => .ok .nx ⟨s.env.set i (some (.own ds)), s.cells⟩) p fun d s1 x H1 w1 _ l1 S1 r1 p1 => ?_)
  obtain ⟨w2, l2, S2⟩ := r1.own (i := i) S1
  exact p1 _ H1 w2 l2 S2
end
end DM
set_option Elab.async false
set_option linter.all false
set_option maxRecDepth 100000
set_option maxHeartbeats 1000000
namespace DM
open PySem PySem.Spec PyProof.Rows L2
structure RG (k : Nat) (A : Around) : Prop where
  rm : Room k A
  gd : A.guards = some []
theorem RG.mono {j k : Nat} {A : Around} (r : RG k A) (h : j ≤ k) : RG j A := ⟨r.rm.mono h, r.gd⟩
theorem RG.deeper {k : Nat} {A : Around} (r : RG (k + 1) A) (env : Env) : RG k (A.deeper env) := ⟨r.rm.deeper env, r.gd⟩
theorem make_guards {A : Around} {C : Addr} {us : List Value} {kw : List (Str × Value)} : (A.under (.builtin "type.__call__" ⟨.ref C :: us, kw⟩)).guards = A.guards := by
  first | rfl | simp [Around.under, Code.guards, Code.isGuard, guardIds, pushGuards]
theorem RG.make {k : Nat} {A : Around} (r : RG (k + 1) A) (C : Addr) (us : List Value) (kw : List (Str × Value)) : RG k (A.under (.builtin "type.__call__" ⟨.ref C :: us, kw⟩)) := ⟨r.rm.make C us kw, by rw [make_guards]; exact r.gd⟩
structure FnG (P : Program) (w : World) (K : PySem.W.Frag) (mg : Str → Option Value) (base : Heap) (k : Nat) (f : Addr) (fd : FuncData) (ps : List Str) (sp : Sp) : Prop where
  len : ∀ vs H Q E, sp vs H Q E → vs.length = ps.length
  run : ∀ (A : Around) (outer : List Env) (s : Shared) (H : Hp) (args : Args) (us : List Value) (vs : List V) (Q : VK) (E : XK), RG k A → Env0 P w K mg base A outer s H → BindsTo s fd args (ps.zip us) → Vals vs us → sp vs H Q E →
    codeAny (model P w) A (.call (.ref f) args) (CR (L2.CX P w) outer P w H s Q E) s
section
variable {P : Program} {w : World} {K : PySem.W.Frag} {mg : Str → Option Value} {base : Heap}
theorem FnG.mono {j k : Nat} {f : Addr} {fd : FuncData} {ps : List Str} {sp : Sp} (F : FnG P w K mg base j f fd ps sp) (h : j ≤ k) : FnG P w K mg base k f fd ps sp := ⟨F.len, fun A outer s H args us vs Q E hr => F.run A outer s H args us vs Q E (hr.mono h)⟩
theorem fnG_ok {k : Nat} {f : Addr} {fd : FuncData} {ps : List Str} {sp : Sp} (F : FnOk P w K mg base (L2.CX P w) k f fd ps sp) : FnG P w K mg base k f fd ps sp := ⟨F.len, fun A outer s H args us vs Q E hr => F.run A outer s H args us vs Q E hr.rm⟩
theorem fnG_of {k : Nat} {f : Addr} {nm ql : Str} {pars : Arguments} {body : List Stmt} {scope : Scope} {dV kV doc pm cdv ct oc : Value} {an od : Option Addr} {osl : Array (Option Value)} {N ps : List Str} {sp : Sp}
    (lk : K.lookup f = some ⟨oc, od, .func (PySem.W.fnOf nm ql pars body scope dV kV doc pm an cdv ct), osl⟩) (hcd : PySem.W.codeIn K cdv ql = true) (S : FnScope N ps scope) (len : ∀ vs H Q E, sp vs H Q E → vs.length = ps.length)
    (hb : ∀ (A : Around) (outer : List Env) (s : Shared) (H : Hp) (vs : List V) (Q : VK) (E : XK), RG k (A.deeper (envOfC ql scope s.heap.objs.size f cdv)) → sp vs H Q E →
      ∃ t, PSs (cxOf (L2.CX P w) P w K mg base N ql scope f cdv A outer s H E) body t ∧ t { nx := fun _ H' => Q .non H', rt := Q } (L2.start N vs) H) :
    FnG P w K mg base (k + 1) f (PySem.W.fnOf nm ql pars body scope dV kV doc pm an cdv ct) ps sp := by
  refine ⟨len, fun A outer s H args us vs Q E hr e0 bnds rv hsp => ?_⟩
  have hl := len _ _ _ _ hsp
  have whole : K.In s.heap := e0.mod.kin.keeps fun b o eo => (e0.bs b o eo).1
  have lim : s.heap.NoLimit := e0.mod.nolimit.keeps fun b o eo => (e0.bs b o eo).1
  have kinds : ∀ y ∈ ps.zip us, scope.names.lookup y.1 = some .local ∨ (scope.names.lookup y.1 = some .cell ∧ ((cellsFrom (s.heap.objs.size + 1) scope.names []).lookup y.1).isSome = true) := fun y hy =>
    (S.par y.1 (List.of_mem_zip hy).1).imp id fun q => ⟨q, PySem.W.cellsFrom_some _ _ _ (.inl q)⟩
  refine codeAny_call_function hr.rm.depth (whole _ _ lk) rfl S.co S.gen rfl (PySem.W.codeRec_of whole hcd) (bnds _ _ _ _ ?_)
  refine wpAny_newFunctionEnv_cells S.kind kinds fun ev hev s1 x => ?_
  subst hev
  refine ⟨lim.keeps x.toInCall.keep, codeAny_func ?_⟩
  obtain ⟨t, ht, hq⟩ := hb A outer s H vs Q E (hr.deeper _) hsp
  refine wpAny_mono (ht.run [] s1 (L2.start N vs) H _ (inv_start S hr.rm.hd e0 hl rv x) hq) (fun fl s2 h2 => ?_) fun _ _ z => z
  cases fl with
  | ret u => exact h2.elim fun v z => z.elim fun σ2 z => z.elim fun H2 y => ⟨v, H2, y.1.os, y.1.bare, y.1.base, y.1.hok, y.2.1, y.2.2⟩
  | next => exact h2.elim fun σ2 z => z.elim fun H2 y => ⟨V.non, H2, y.1.os, y.1.bare, y.1.base, y.1.hok, rfl, y.2⟩
  | brk => exact h2.elim fun σ2 z => z.elim fun H2 y => False.elim y.2
  | cont => exact h2.elim fun σ2 z => z.elim fun H2 y => False.elim y.2
theorem funG {x qual : Str} {st : Stmt} {f : Addr} {fd : FuncData} {N ps : List Str} {k : Nat} {sp : Sp} (F : Fun K x qual st f fd) (S : FnScope N ps (defScope st)) (len : ∀ vs H Q E, sp vs H Q E → vs.length = ps.length)
    (hb : ∀ (cdv : Value) (A : Around) (outer : List Env) (s : Shared) (H : Hp) (vs : List V) (Q : VK) (E : XK), RG k (A.deeper (envOfC qual (defScope st) s.heap.objs.size f cdv)) → sp vs H Q E →
      ∃ t, PSs (cxOf (L2.CX P w) P w K mg base N qual (defScope st) f cdv A outer s H E) (defBody st) t ∧ t { nx := fun _ H' => Q .non H', rt := Q } (L2.start N vs) H) : FnG P w K mg base (k + 1) f fd ps sp := by
  obtain ⟨oc, od, kV, doc, pm, an, cdv, ct, osl, rfl, lk, hcd⟩ := F.ex
  exact fnG_of lk hcd S len fun A outer s H vs Q E hr hsp => hb cdv A outer s H vs Q E hr hsp
end
section
variable {X : Cx} {k : Nat} {f : Addr} {fd : FuncData} {ps : List Str} {sp : Sp} {E : L2.St → XK} {x : Str} {p pos : Pos} {e : Expr} {es : List Expr} {t : TA}
theorem runG {pins : List (Addr × Obj)} {σ : L2.St} {H : Hp} {s : Shared} {Q : VK} {us : List Value} {vs : List V} (F : FnG X.prog X.w X.K X.mg X.base k f fd ps sp) (hr : RG k X.A) (hb : Binds X.K fd ps []) (hx : PassesAt (L2.CX X.prog X.w) X σ (E σ))
    (I : Inv X pins σ H s) (rv : Vals vs us) (h : sp vs H Q (E σ)) : wpAny (model X.prog X.w) X.A (call (.ref f) us) (EP X pins σ Q) X.xe s := by
  have hl : us.length = ps.length := rv.length.symm.trans (F.len _ _ _ _ h)
  have bd := hb s us I.kIn (by rw [List.append_nil]; exact hl)
  rw [List.append_nil] at bd
  refine wpAny_call (codeAny_mono (F.run X.A X.stack s H ⟨us, []⟩ us vs Q (E σ) hr I.env0 bd rv h) fun r s2 back => ?_)
  cases r with
  | error er => exact hx pins H s er s2 I back
  | ok fl =>
    cases fl with
    | ret u => exact I.after back
    | next => exact False.elim back
    | brk => exact False.elim back
    | cont => exact False.elim back
theorem pe_callG (F : FnG X.prog X.w X.K X.mg X.base k f fd ps sp) (hr : RG k X.A) (hg : Gl X x) (hm : X.mg x = some (.ref f)) (hk : PySem.W.keepIn X.K (.ref f) = true) (hb : Binds X.K fd ps []) (hx : ∀ σ, PassesAt (L2.CX X.prog X.w) X σ (E σ))
    (ha : PA X (e :: es) t) (hdb : (x == ("__debug__" : Str)) = false := by decide) (he : starEach (e :: es) X.env = (false, eval e X.env) :: starEach es X.env := by rfl) (hpl : (backTo pos (starEach es X.env)).any (·.1) = false := by rfl) :
    PE X (.Call (.Name x p) (e :: es) [] pos) (tCallS sp E t) := by
  refine ⟨fun pins s σ H Q I h => wpAny_Call_Name_kw (ld_glob I hg hm ?_ hdb)⟩
  refine PySem.W.callWith_K (h₀ := X.base) I.ok.mod.kin hk (thn (ha.run pos pins s σ H _ I h) fun us s1 hh => ?_) he hpl
  obtain ⟨vs, H1, I1, rv, q⟩ := hh
  exact ⟨I1.kIn, runG F hr hb (hx σ) I1 rv q⟩
theorem pe_callG0 (F : FnG X.prog X.w X.K X.mg X.base k f fd [] sp) (hr : RG k X.A) (hg : Gl X x) (hm : X.mg x = some (.ref f)) (hk : PySem.W.keepIn X.K (.ref f) = true) (hb : Binds X.K fd [] [])
    (hx : ∀ σ, PassesAt (L2.CX X.prog X.w) X σ (E σ)) (hdb : (x == ("__debug__" : Str)) = false := by decide) : PE X (.Call (.Name x p) [] [] pos) (tCallS sp E tNil) := by
  refine ⟨fun pins s σ H Q I h => wpAny_Call_Name_kw (ld_glob I hg hm ?_ hdb)⟩
  exact PySem.W.callWith_K0 I.kIn hk (runG (us := []) F hr hb (hx σ) I .nil h)
end
end DM
set_option Elab.async false
set_option linter.all false
set_option maxRecDepth 100000
set_option maxHeartbeats 400000
namespace DM
open PySem PySem.Spec PyProof.Rows L2
def PostR (c : Ct) (T0 : Addr → Option Tag) (H0 : Hp) (E : XK) (r : RRes) (w : Wd) (Q : VK) : Prop :=
  match r with
  | .ok d cells => ∀ x H' w', w.le w' → CellsOk c cells H' w' → Frame T0 H0 w'.T H' → RepW c w' d x → Q x H'
  | .exc e cells => ∀ cls dd H' w', w.le w' → CellsOk c cells H' w' → Frame T0 H0 w'.T H' → ExcOk c H' w' e cls dd → E cls dd H'
  | .bad => False
def spD (c : Ct) (n : Nat) (F : Fn) : Sp := fun vs H Q E => vs.length = n ∧ ∃ ds cells w, RepWL c w ds vs ∧ CellsOk c cells H w ∧ PostR c w.T H E (F ds cells) w Q
def FnD (P : Program) (w0 : World) (K : PySem.W.Frag) (mg : Str → Option Value) (base : Heap) (k : Nat) (f : Addr) (fd : FuncData) (ps : List Str) (F : Fn) : Prop :=
  FnG P w0 K mg base k f fd ps (spD ⟨K, mg, none⟩ ps.length F)
def runFn (n : Nat) (body : MS) : Fn := fun ds cells => match body ⟨ds.map (fun d => some (.val d)) ++ List.replicate (n - ds.length) none, cells⟩ with
  | .ok (.rt d) s => .ok d s.cells
  | .ok .nx s => .ok .non s.cells
  | .exc e s => .exc e s.cells
  | _ => .bad
section
variable {P : Program} {w0 : World} {K : PySem.W.Frag} {mg : Str → Option Value} {base : Heap}
theorem sim_start {c : Ct} {cells : List Cell} {H : Hp} {w : Wd} {ds : List D} {vs : List V} {N : List Str} (r : RepWL c w ds vs) (co : CellsOk c cells H w) (hn : vs.length ≤ N.length) :
    Sim c ⟨w.T, H, none⟩ ⟨ds.map (fun d => some (.val d)) ++ List.replicate (N.length - ds.length) none, cells⟩ (L2.start N vs) H w := by
  have hl := r.length
  refine ⟨co, ?_, fun i t e => ?_, fun a h => ⟨h, rfl⟩, fun i cn fs x e => ?_⟩
  · unfold L2.start
    simp only [List.length_append, List.length_map, List.length_replicate]
    omega
  · by_cases hi : i < ds.length
    · have e' : (ds.map (fun d => some (Slot.val d)) ++ List.replicate (N.length - ds.length) none)[i]? = some (some t) := e
      rw [List.getElem?_append_left (by simpa using hi), List.getElem?_map] at e'
      cases q : ds[i]? with
      | none => rw [q] at e'; cases e'
      | some d =>
        rw [q] at e'
        cases e'
        obtain ⟨x, hx, rx⟩ := r.get q
        refine ⟨x, ?_, rx⟩
        unfold L2.start
        rw [List.getElem?_append_left (by rw [List.length_map, ← hl]; exact hi), List.getElem?_map, hx] <;> rfl
    · have e' : (ds.map (fun d => some (Slot.val d)) ++ List.replicate (N.length - ds.length) none)[i]? = some (some t) := e
      rw [List.getElem?_append_right (by simpa using hi), List.getElem?_replicate] at e'
      split at e' <;> cases e'
  · have e' : (ds.map (fun d => some (Slot.val d)) ++ List.replicate (N.length - ds.length) none)[i]? = some (some (.ownI cn fs)) := e
    have m1 := List.mem_of_getElem? e'
    rcases List.mem_append.mp m1 with m1 | m1
    · obtain ⟨_, _, q⟩ := List.mem_map.mp m1
      cases q
    · cases (List.mem_replicate.mp m1).2
theorem fnD {x qual : Str} {st : Stmt} {f : Addr} {fd : FuncData} {N ps : List Str} {k : Nat} {body : MS} (F : Fun K x qual st f fd) (S : FnScope N ps (defScope st)) (hps : ps.length ≤ N.length)
    (h : ∀ (cdv : Value) (A : Around) (outer : List Env) (s : Shared) (H : Hp) (E : XK), RG k (A.deeper (envOfC qual (defScope st) s.heap.objs.size f cdv)) →
      Takes (cxOf (L2.CX P w0) P w0 K mg base N qual (defScope st) f cdv A outer s H E) (fun cls d _ H => E cls d H) →
      PassesOwn (model P w0) (A.deeper (envOfC qual (defScope st) s.heap.objs.size f cdv)) (envOfC qual (defScope st) s.heap.objs.size f cdv) (cxOf (L2.CX P w0) P w0 K mg base N qual (defScope st) f cdv A outer s H E).xe →
      DSs (cxOf (L2.CX P w0) P w0 K mg base N qual (defScope st) f cdv A outer s H E) (fun cls d _ H => E cls d H) (defBody st) body) :
    FnD P w0 K mg base (k + 1) f fd ps (runFn N.length body) := by
  refine funG F S (fun vs H Q E q => q.1) fun cdv A outer s H vs Q E hr q => ?_
  obtain ⟨hl, ds, cells, w, r, co, post⟩ := q
  obtain ⟨t, ht, kt⟩ := h cdv A outer s H E hr (takes_of rfl rfl rfl rfl) (passes_of rfl)
  refine ⟨t, ht, kt ⟨w.T, H, none⟩ _ (L2.start N vs) H w _ (sim_start (c := ⟨K, mg, none⟩) r co (by omega)) ?_⟩
  unfold runFn at post
  cases e : body ⟨ds.map (fun d => some (.val d)) ++ List.replicate (N.length - ds.length) none, cells⟩ with
  | ok fl s1 =>
    rw [e] at post
    cases fl with
    | nx => exact fun σ' H' w' l S1 => post .non H' w' l S1.co S1.fr rfl
    | rt d => exact fun x σ' H' w' l S1 rx => post x H' w' l S1.co S1.fr rx
    | bk => exact post.elim
    | ct => exact post.elim
  | exc ex s1 =>
    rw [e] at post
    exact fun cls d σ' H' w' l S1 r1 => post cls d H' w' l S1.co S1.fr r1
  | bad => rw [e] at post; exact post.elim
end
def toPriv (T : Addr → Option Tag) : Addr → Option Tag := fun a => match T a with
  | some (.slot _) => some .priv
  | t => t
def backT (T T' : Addr → Option Tag) : Addr → Option Tag := fun a => match T a with
  | some (.slot i) => some (.slot i)
  | some .priv => some .priv
  | _ => match T' a with
    | some (.slot _) => none
    | some .priv => none
    | t => t
theorem toPriv_cell {T : Addr → Option Tag} {a : Addr} {t : Tag} (n : Nat) (h : tagCell n t) : toPriv T a = some t ↔ T a = some t := by
  unfold toPriv
  cases e : T a with
  | none => simp
  | some u =>
    cases u with
    | slot i =>
      constructor
      · intro q; cases q; exact h.elim
      · intro q; cases q; exact h.elim
    | _ => exact Iff.rfl
theorem CellsOk.priv {c : Ct} {cells : List Cell} {H : Hp} {w : Wd} (co : CellsOk c cells H w) : CellsOk c cells H ⟨w.F, w.m, toPriv w.T⟩ := by
  refine ⟨co.sub, fun a t h => ?_, co.len, fun n cl e => ?_⟩
  · have h' : toPriv w.T a = some t := h
    unfold toPriv at h'
    cases q : w.T a with
    | none => rw [q] at h'; cases h'
    | some u => exact co.tg a u q
  · obtain ⟨a, h1, h2, h3⟩ := co.at_ n cl e
    exact ⟨a, h1, (toPriv_cell (t := .cell n) n rfl).mpr h2, CellOk.mono (w' := ⟨w.F, w.m, toPriv w.T⟩) (fun t b o ht k1 k2 => ⟨(toPriv_cell n ht).mpr k1, k2⟩) ⟨Sub.refl _, List.prefix_refl _⟩ h2 h3⟩
theorem Sim.back {c : Ct} {B : Bs} {s : S} {σ : L2.St} {H H' : Hp} {w w' : Wd} {cells' : List Cell} (S : Sim c B s σ H w) (l : w.le w') (co : CellsOk c cells' H' w') (fr : Frame (toPriv w.T) H w'.T H') :
    w.le ⟨w'.F, w'.m, backT w.T w'.T⟩ ∧ Sim c B ⟨s.env, cells'⟩ σ H' ⟨w'.F, w'.m, backT w.T w'.T⟩ := by
  have own : ∀ a i, w.T a = some (.slot i) → w'.T a = some .priv ∧ H' a = H a := fun a i h => fr a (by unfold toPriv; rw [h])
  have prv : ∀ a, w.T a = some .priv → w'.T a = some .priv ∧ H' a = H a := fun a h => fr a (by unfold toPriv; rw [h])
  have bk : ∀ n t a, tagCell n t → w'.T a = some t → backT w.T w'.T a = some t := fun n t a ht h => by
    unfold backT
    cases q : w.T a with
    | none => rw [h]; cases t <;> first | rfl | exact ht.elim
    | some u =>
      cases u with
      | slot i => rw [(own a i q).1] at h; cases h; exact ht.elim
      | priv => rw [(prv a q).1] at h; cases h; exact ht.elim
      | _ => rw [h]; cases t <;> first | rfl | exact ht.elim
  refine ⟨l, ⟨co.sub, fun a t h => ?_, co.len, fun n cl e => ?_⟩, S.len, fun i t e => ?_, fun a h => ?_, S.me⟩
  · have h' : backT w.T w'.T a = some t := h
    unfold backT at h'
    cases q : w.T a with
    | none =>
      rw [q] at h'
      cases q2 : w'.T a with
      | none => rw [q2] at h'; cases h'
      | some u => exact co.tg a u q2
    | some u =>
      cases u with
      | slot i => exact co.tg a _ (own a i q).1
      | priv => exact co.tg a _ (prv a q).1
      | _ =>
        rw [q] at h'
        cases q2 : w'.T a with
        | none => rw [q2] at h'; cases h'
        | some u => exact co.tg a u q2
  · obtain ⟨a, h1, h2, h3⟩ := co.at_ n cl e
    exact ⟨a, h1, bk n _ a rfl h2, CellOk.mono (w' := ⟨w'.F, w'.m, backT w.T w'.T⟩) (fun t b o ht k1 k2 => ⟨bk n t b ht k1, k2⟩) ⟨Sub.refl _, List.prefix_refl _⟩ h2 h3⟩
  · obtain ⟨x, hx, k⟩ := S.sl i t e
    refine ⟨x, hx, SlotOk.mono (w' := ⟨w'.F, w'.m, backT w.T w'.T⟩) (fun a o k1 k2 => ⟨?_, ?_⟩) l k⟩
    · show backT w.T w'.T a = _
      unfold backT
      rw [k1]
    · rw [(own a i k1).2]; exact k2
  · obtain ⟨h1, h2⟩ := S.fr a h
    refine ⟨?_, by rw [(prv a h1).2]; exact h2⟩
    show backT w.T w'.T a = _
    unfold backT
    rw [h1]
def mCall (F : Fn) (m : M (List D)) : M D := bnd m fun ds => fun s => match F ds s.cells with
  | .ok d cells => .ok d ⟨s.env, cells⟩
  | .exc e cells => .exc e ⟨s.env, cells⟩
  | .bad => .bad
section
variable {X : Cx} {W : WX}
theorem call_post {B : Bs} {s1 : S} {σ : L2.St} {H1 : Hp} {w1 : Wd} {F : Fn} {ds : List D} {vs : List V} {n : Nat} {Q : VK} (S1 : Sim (XC X) B s1 σ H1 w1) (r : RepWL (XC X) w1 ds vs) (hn : vs.length = n)
    (p : Post (XC X) B W (RepW (XC X)) (match F ds s1.cells with
      | .ok d cells => .ok d ⟨s1.env, cells⟩
      | .exc e cells => .exc e ⟨s1.env, cells⟩
      | .bad => .bad) σ w1 Q) : spD (XC X) n F vs H1 Q (WE W σ) := by
  refine ⟨hn, ds, s1.cells, ⟨w1.F, w1.m, toPriv w1.T⟩, r, S1.co.priv, ?_⟩
  cases e : F ds s1.cells with
  | ok d cells =>
    rw [e] at p
    intro x H' w' l co fr rx
    obtain ⟨l2, S2⟩ := S1.back l co fr
    exact p x H' _ l2 S2 rx
  | exc ex cells =>
    rw [e] at p
    intro cls dd H' w' l co fr rx
    obtain ⟨l2, S2⟩ := S1.back l co fr
    exact p cls dd σ H' _ l2 S2 rx
  | bad => rw [e] at p; exact p
theorem xc_calm (hc : X.calm = true) : XC X = ⟨X.K, X.mg, none⟩ := by
  unfold XC
  rw [hc] <;> rfl
theorem FnD.at (hc : X.calm = true) {k : Nat} {f : Addr} {fd : FuncData} {ps : List Str} {F : Fn} (h : FnD X.prog X.w X.K X.mg X.base k f fd ps F) : FnG X.prog X.w X.K X.mg X.base k f fd ps (spD (XC X) ps.length F) := by
  rw [xc_calm hc]
  exact h
theorem de_call {k : Nat} {f : Addr} {fd : FuncData} {ps : List Str} {F : Fn} {x : Str} {e : Expr} {es : List Expr} {m : M (List D)} {p pos : Pos} (hF : FnD X.prog X.w X.K X.mg X.base k f fd ps F) (hr : RG k X.A) (hm : X.mg x = some (.ref f)) (hk : PySem.W.keepIn X.K (.ref f) = true)
    (hb : Binds X.K fd ps []) (tk : Takes X W) (ha : DA X W (e :: es) m) (hps : ps.length = (e :: es).length) (hm2 : ∀ s d s', m s = .ok d s' → d.length = (e :: es).length) (hc : X.calm = true := by rfl) (hg : Gl X x := by rfl) (hdb : (x == ("__debug__" : Str)) = false := by decide)
    (he : starEach (e :: es) X.env = (false, eval e X.env) :: starEach es X.env := by rfl) (hpl : (backTo pos (starEach es X.env)).any (·.1) = false := by rfl) : DE X W (.Call (.Name x p) (e :: es) [] pos) (mCall F m) := by
  obtain ⟨t, ht, kt⟩ := ha
  refine de_of (pe_callG (E := WE W) (hF.at hc) hr hg hm hk hb (passAt tk) ht hdb he hpl) fun B s σ H w Q S p => kt B s σ H w _ S (post_bnd p fun ds s1 vs H1 w1 e1 l1 S1 r1 p1 => ?_)
  exact call_post S1 r1 (by rw [← r1.length, hm2 s ds s1 e1, hps]) p1
theorem len_nil : ∀ s d s', mNil s = .ok d s' → d.length = 0 := fun s d s' h => by
  unfold mNil ret at h
  cases h
  rfl
theorem len_cons {a : M D} {r : M (List D)} {n : Nat} (h : ∀ s d s', r s = .ok d s' → d.length = n) : ∀ s d s', mCons a r s = .ok d s' → d.length = n + 1 := fun s d s' e => by
  unfold mCons bnd at e
  cases e1 : a s with
  | ok d1 s1 =>
    rw [e1] at e
    cases e2 : r s1 with
    | ok ds s2 =>
      simp only [e2, ret] at e
      cases e
      rw [List.length_cons, h _ _ _ e2]
    | exc ex s2 => simp only [e2] at e; cases e
    | bad => simp only [e2] at e; cases e
  | exc ex s1 => rw [e1] at e; cases e
  | bad => rw [e1] at e; cases e
theorem de_call0 {k : Nat} {f : Addr} {fd : FuncData} {F : Fn} {x : Str} {p pos : Pos} (hF : FnD X.prog X.w X.K X.mg X.base k f fd [] F) (hr : RG k X.A) (hm : X.mg x = some (.ref f)) (hk : PySem.W.keepIn X.K (.ref f) = true)
    (hb : Binds X.K fd [] []) (tk : Takes X W) (hc : X.calm = true := by rfl) (hg : Gl X x := by rfl) (hdb : (x == ("__debug__" : Str)) = false := by decide) : DE X W (.Call (.Name x p) [] [] pos) (mCall F mNil) :=
  de_of (pe_callG0 (E := WE W) (hF.at hc) hr hg hm hk hb (passAt tk) hdb) fun B s σ H w Q S p => call_post S (show RepWL (XC X) w [] [] from rfl) rfl p
theorem wipe_get : ∀ (σ : L2.St) (vs : List Nat) (j : Nat), (wipe σ vs)[j]? = if j ∈ vs then (if j < σ.length then some none else none) else σ[j]?
  | σ, [], j => by simp [wipe]
  | σ, v :: vs, j => by
    unfold wipe
    by_cases h : v = j
    · subst h
      rw [if_pos List.mem_cons_self]
      by_cases hl : v < σ.length
      · rw [if_pos hl, List.getElem?_set_self (by rw [wipe_length]; exact hl)]
      · rw [if_neg hl, List.getElem?_eq_none (by rw [List.length_set, wipe_length]; omega)]
    · rw [List.getElem?_set_ne h, wipe_get σ vs j]
      have e : (j ∈ v :: vs) ↔ j ∈ vs := by
        rw [List.mem_cons]
        exact ⟨fun q => q.elim (fun z => absurd z.symm h) id, .inr⟩
      simp only [e]
def OnlyAt (is : List Nat) (σ σ' : L2.St) : Prop := ∀ vs : List Nat, (∀ i ∈ is, i ∈ vs) → wipe σ' vs = wipe σ vs
theorem OnlyAt.refl (is : List Nat) (σ : L2.St) : OnlyAt is σ σ := fun _ _ => rfl
theorem OnlyAt.trans {is : List Nat} {a b d : L2.St} (h : OnlyAt is a b) (k : OnlyAt is b d) : OnlyAt is a d := fun vs hv => (k vs hv).trans (h vs hv)
theorem OnlyAt.more {is js : List Nat} {a b : L2.St} (h : OnlyAt is a b) (k : ∀ i ∈ is, i ∈ js) : OnlyAt js a b := fun vs hv => h vs fun i hi => hv i (k i hi)
theorem OnlyAt.set {i : Nat} {σ : L2.St} {x : Option V} : OnlyAt [i] σ (σ.set i x) := fun vs hv => by
  apply List.ext_getElem?
  intro j
  rw [wipe_get, wipe_get, List.length_set]
  by_cases h : j ∈ vs
  · rw [if_pos h, if_pos h]
  · rw [if_neg h, if_neg h, List.getElem?_set_ne fun e => h (by rw [← e]; exact hv i List.mem_cons_self)]
def PostU (c : Ct) (B : Bs) (is : List Nat) (r : Res Unit) (σ : L2.St) (w : Wd) (Q : L2.St → Hp → Prop) : Prop :=
  match r with
  | .ok _ s => ∀ σ' H' w', w.le w' → Sim c B s σ' H' w' → OnlyAt is σ σ' → Q σ' H'
  | _ => False
def DG (X : Cx) (tg : Expr) (is : List Nat) (f : D → M Unit) : Prop := ∃ g, PG X tg g ∧ ∀ B s σ H w d x Q, Sim (XC X) B s σ H w → RepW (XC X) w d x → PostU (XC X) B is (f d s) σ w Q → g x σ H Q
def DGs (X : Cx) (ts : List Expr) (is : List Nat) (f : List D → M Unit) : Prop := ∃ g, PGs X ts g ∧ ∀ B s σ H w ds xs Q, Sim (XC X) B s σ H w → RepWL (XC X) w ds xs → PostU (XC X) B is (f ds s) σ w Q → g xs σ H Q
def tName (i : Nat) : D → M Unit := fun d => fun s => .ok () ⟨s.env.set i (some (.val d)), s.cells⟩
theorem dg_name (i : Nat) {x : Str} {pos : Pos} (hN : X.N.Nodup) (hi : X.N[i]? = some x := by rfl) (hx : Loc X.env.scope x := by first | exact Or.inl rfl | exact Or.inr rfl) (hf : X.fn x = true ∨ X.env.scope.names.lookup x = some .local := by first | exact Or.inl rfl | exact Or.inr rfl) :
    DG X (.Name x pos) [i] (tName i) := ⟨_, pg_name hN hi hx hf, fun B s σ H w d x Q S r p => p _ H w (Wd.le.refl w) (S.setVal r) OnlyAt.set⟩
def tsNil : List D → M Unit := fun ds => match ds with
  | [] => fun s => .ok () s
  | _ => bad
def tsCons (f : D → M Unit) (g : List D → M Unit) : List D → M Unit := fun ds => match ds with
  | d :: r => bnd (f d) fun _ => g r
  | [] => bad
theorem dgs_nil : DGs X [] [] tsNil := ⟨_, pgs_nil, fun B s σ H w ds xs Q S r p => by
  cases ds with
  | nil => exact ⟨r, p σ H w (Wd.le.refl w) S (OnlyAt.refl _ _)⟩
  | cons d ds => exact p.elim⟩
theorem dgs_cons {e : Expr} {es : List Expr} {is js : List Nat} {f : D → M Unit} {g : List D → M Unit} (h : DG X e is f) (h2 : DGs X es js g) (hs : (assignEach (e :: es) X.env).map (·.2) = assign e X.env :: (assignEach es X.env).map (·.2) := by rfl) : DGs X (e :: es) (is ++ js) (tsCons f g) := by
  obtain ⟨t, ht, kt⟩ := h
  obtain ⟨u, hu, ku⟩ := h2
  refine ⟨_, pgs_cons ht hu hs, fun B s σ H w ds xs Q S r p => ?_⟩
  cases ds with
  | nil => exact p.elim
  | cons d ds =>
    obtain ⟨y, ys, e1, ry, rs⟩ := r
    refine ⟨y, ys, e1, kt B s σ H w d y _ S ry ?_⟩
    have p' : PostU (XC X) B (is ++ js) (bnd (f d) (fun _ => g ds) s) σ w Q := p
    unfold bnd at p'
    cases q : f d s with
    | ok a s1 =>
      rw [q] at p'
      intro σ' H' w' l S' o
      refine ku B s1 σ' H' w' ds ys Q S' (RepWL.le l rs) ?_
      have p2 : PostU (XC X) B (is ++ js) (g ds s1) σ w Q := p'
      cases q2 : g ds s1 with
      | ok a2 s2 =>
        rw [q2] at p2
        exact fun σ2 H2 w2 l2 S2 o2 => p2 σ2 H2 w2 (l.trans l2) S2 ((o.more fun i hi => List.mem_append_left _ hi).trans (o2.more fun i hi => List.mem_append_right _ hi))
      | exc ex s2 => rw [q2] at p2; exact p2
      | bad => rw [q2] at p2; exact p2
    | exc ex s1 => rw [q] at p'; exact p'
    | bad => rw [q] at p'; exact p'
def tTup (n : Nat) (f : List D → M Unit) : D → M Unit := fun d => match d with
  | .tup ds => if ds.length = n then f ds else bad
  | .lst ds => if ds.length = n then f ds else bad
  | _ => bad
theorem PG.or {X : Cx} {tg : Expr} {t u : TG} (h : PG X tg t) (k : PG X tg u) : PG X tg (fun v σ H Q => t v σ H Q ∨ u v σ H Q) :=
  ⟨fun pins s σ H v x Q I r q => q.elim (h.run pins s σ H v x Q I r) (k.run pins s σ H v x Q I r)⟩
theorem dg_tup {es : List Expr} {kk : Nat} {pos : Pos} {is : List Nat} {f : List D → M Unit} {n : Nat} (h : DGs X es is f) (hc : X.calm = true := by rfl) (hn : (assignEach es X.env).length = n := by rfl) (hst : (assignEach es X.env).findIdx? (·.1) = none := by rfl) : DG X (.Tuple es kk pos) is (tTup n f) := by
  obtain ⟨g, hg, kg⟩ := h
  refine ⟨_, PG.or (pg_tup hc hg hn hst) (pg_unl hc hg hn hst), fun B s σ H w d x Q S r p => ?_⟩
  cases d with
  | tup ds =>
    obtain ⟨a, xs, e1, h1, r1⟩ := r
    have p' : PostU (XC X) B is ((if ds.length = n then f ds else bad : M Unit) s) σ w Q := p
    split at p'
    · rename_i hl
      exact .inl ⟨a, xs, e1, S.co.sub.sqT h1, by rw [← r1.length]; exact hl, kg B s σ H w ds xs Q S r1 p'⟩
    · exact p'.elim
  | lst ds =>
    obtain ⟨a, xs, e1, h1, r1⟩ := r
    have p' : PostU (XC X) B is ((if ds.length = n then f ds else bad : M Unit) s) σ w Q := p
    split at p'
    · rename_i hl
      exact .inr ⟨a, xs, e1, SqL.of (S.co.sub.at h1 rfl), by rw [← r1.length]; exact hl, kg B s σ H w ds xs Q S r1 p'⟩
    · exact p'.elim
  | _ => exact p.elim
def mAsg (f : D → M Unit) (m : M D) : MS := bnd m fun d => fun s => match f d s with
  | .ok _ s' => .ok .nx s'
  | _ => .bad
theorem ds_asg {tg e : Expr} {m : M D} {f : D → M Unit} {pos : Pos} (h : DE X W e m) {is : List Nat} (hg : DG X tg is f) (hs : swapsWithSole [tg] e pos.line X.env = pure false := by rfl) (hw : swappedStores [tg] e X.env = pure none := by rfl) (h1 : (assignEach [tg] X.env).map (·.2) = [assign tg X.env] := by rfl) :
    DS X W (.Assign [tg] e pos) (mAsg f m) := by
  obtain ⟨t, ht, kt⟩ := h
  obtain ⟨g, pg, kg⟩ := hg
  refine ds_of (ps_asg ht pg hs hw h1) fun B s σ H w D S p => kt B s σ H w _ S (posts_bnd (f := fun d => fun s => match f d s with
    | .ok _ s' => .ok .nx s'
    | _ => .bad) p fun d s1 x H1 w1 _ l1 S1 r1 p1 => kg B s1 σ H1 w1 d x _ S1 r1 ?_)
  cases q : f d s1 with
  | ok a s2 => simp only [q] at p1; exact fun σ' H' w' l S' _ => p1 σ' H' w' l S'
  | exc ex s2 => simp only [q] at p1; exact p1.elim
  | bad => simp only [q] at p1; exact p1.elim
def parK (i j : Nat) : List D → MS
  | [a, b] => fun s => .ok .nx ⟨(s.env.set i (some (.val a))).set j (some (.val b)), s.cells⟩
  | _ => fun _ => .bad
def mPar (i j : Nat) (m : M (List D)) : MS := bnd m (parK i j)
theorem ds_par {i j : Nat} {x y : Str} {a b : Expr} {m : M (List D)} {px py pt pos : Pos} {kt k2 pt2} (h : DA X W [a, b] m) (hN : X.N.Nodup) (hw : swappedStores [.Tuple [.Name x px, .Name y py] kt pt] (.Tuple [a, b] k2 pt2) X.env = pure (some [x, y]) := by rfl)
    (hi : X.N[i]? = some x := by rfl) (hj : X.N[j]? = some y := by rfl) (hij : i ≠ j := by decide) (hx : X.env.scope.names.lookup x = some .local := by rfl) (hy : X.env.scope.names.lookup y = some .local := by rfl) (hc : X.calm = true := by rfl)
    (hs : swapsWithSole [.Tuple [.Name x px, .Name y py] kt pt] (.Tuple [a, b] k2 pt2) pos.line X.env = pure false := by rfl) :
    DS X W (.Assign [.Tuple [.Name x px, .Name y py] kt pt] (.Tuple [a, b] k2 pt2) pos) (mPar i j m) := by
  obtain ⟨t, ht, kt⟩ := h
  refine ds_of (ps_par hc hN hi hj hij hx hy ht hw hs) fun B s σ H w D S p => kt B s σ H w _ S (posts_bnd (f := parK i j) p fun ds s1 xs H1 w1 _ l1 S1 r1 p1 => ?_)
  match ds, r1, p1 with
  | [d1, d2], r1, p1 =>
    obtain ⟨x1, x2, rfl, q1, q2⟩ := two_rep r1
    exact ⟨x1, x2, rfl, p1 _ H1 w1 (Wd.le.refl w1) ((S1.setVal q1).setVal q2)⟩
  | [], _, p1 => exact p1.elim
  | [_], _, p1 => exact p1.elim
  | _ :: _ :: _ :: _, _, p1 => exact p1.elim
end
end DM
set_option Elab.async false
set_option linter.all false
set_option maxRecDepth 100000
set_option maxHeartbeats 400000
namespace DM
open PySem PySem.Spec PyProof.Rows L2
structure IterOk (c : Ct) (J : It) (w0 : Wd) (items : List D) : Prop where
  go : ∀ i d B s σ H w, items[i]? = some d → w0.le w → Sim c B s σ H w → J.go i H ∧ ∀ x H', J.yld i H x H' → ∃ w', w.le w' ∧ Sim c B s σ H' w' ∧ RepW c w' d x
  stop : ∀ B s σ H w, w0.le w → Sim c B s σ H w → J.stop items.length H
def PostI (c : Ct) (B : Bs) (W : WX) (r : Res (List D)) (σ : L2.St) (w : Wd) (R : It → Hp → Prop) : Prop :=
  match r with
  | .ok items s => ∀ J H' w', w.le w' → Sim c B s σ H' w' → IterOk c J w' items → R J H'
  | .exc e s => PostX c B W e s w
  | .bad => False
theorem PostI.up {c : Ct} {B : Bs} {W : WX} {r : Res (List D)} {σ : L2.St} {w w' : Wd} {R : It → Hp → Prop} (h : PostI c B W r σ w R) (l : w.le w') : PostI c B W r σ w' R := by
  cases r with
  | ok a s => exact fun J H' w2 l2 S q => h J H' w2 (l.trans l2) S q
  | exc e s => exact PostX.up h l
  | bad => exact h
def DI (X : Cx) (W : WX) (tg iter : Expr) (m : M (List D)) : Prop := ∃ wi, PI X tg iter wi ∧ ∀ B s σ H w R, Sim (XC X) B s σ H w → PostI (XC X) B W (m s) σ w R → wi σ H R
theorem PI.or {X : Cx} {tg e : Expr} {t u : TI} (h : PI X tg e t) (k : PI X tg e u) : PI X tg e (fun σ H R => t σ H R ∨ u σ H R) :=
  ⟨fun pins s σ H R I q => q.elim (h.run pins s σ H R I) (k.run pins s σ H R I)⟩
theorem posti_bnd {c : Ct} {B : Bs} {W : WX} {α β : Type} {R : Wd → α → β → Prop} {w : Wd} {σ : L2.St} {m : M α} {f : α → M (List D)} {s : S} {Q : It → Hp → Prop} {Q1 : β → Hp → Prop} (h : PostI c B W (bnd m f s) σ w Q)
    (k : ∀ a s1 x H1 w1, m s = .ok a s1 → w.le w1 → Sim c B s1 σ H1 w1 → R w1 a x → PostI c B W (f a s1) σ w1 Q → Q1 x H1) : Post c B W R (m s) σ w Q1 := by
  unfold bnd at h
  cases e : m s with
  | ok a s1 =>
    rw [e] at h
    exact fun x H1 w1 l S1 r => k a s1 x H1 w1 e l S1 r (PostI.up h l)
  | exc ex s1 => rw [e] at h; exact h
  | bad => rw [e] at h; exact h
def itemsI : D → Option (List D)
  | .lst ds => some ds
  | .tup ds => some ds
  | .scr ns => some (ns.map .int)
  | .str z => some (z.cps.toList.map fun k => .str ⟨#[k]⟩)
  | _ => none
def fin2 (o : Option (List D)) : M (List D) := fun s => match o with
  | some d => .ok d s
  | none => .bad
def mItems (m : M D) : M (List D) := bnd m fun d => fin2 (itemsI d)
section
variable {c : Ct} {B : Bs} {s : S} {σ : L2.St} {H : Hp} {w : Wd}
theorem iter_lst {a : Addr} {ds : List D} (h : ∀ H w', w.le w' → Sub w'.F H → ∃ xs, SqL c.K H a xs ∧ RepWL c w' ds xs) : IterOk c (Itl c.K a) w ds := by
  refine ⟨fun i d B s σ H w' e l S => ?_, fun B s σ H w' l S => ?_⟩
  · obtain ⟨xs, hq, r⟩ := h H w' l S.co.sub
    obtain ⟨x, hx, rx⟩ := r.get e
    refine ⟨⟨xs, x, hq, hx⟩, fun y H' q => ?_⟩
    obtain ⟨e2, q⟩ := q
    subst e2
    have := q xs hq
    rw [hx] at this
    cases this
    exact ⟨w', Wd.le.refl w', S, rx⟩
  · obtain ⟨xs, hq, r⟩ := h H w' l S.co.sub
    exact ⟨xs, hq, by rw [r.length]; exact Nat.le_refl _⟩
theorem iter_tup {a : Addr} {ds : List D} (h : ∀ H w', w.le w' → Sub w'.F H → ∃ xs, SqT c.K H a xs ∧ RepWL c w' ds xs) : IterOk c (Itt c.K a) w ds := by
  refine ⟨fun i d B s σ H w' e l S => ?_, fun B s σ H w' l S => ?_⟩
  · obtain ⟨xs, hq, r⟩ := h H w' l S.co.sub
    obtain ⟨x, hx, rx⟩ := r.get e
    refine ⟨⟨xs, x, hq, hx⟩, fun y H' q => ?_⟩
    obtain ⟨e2, q⟩ := q
    subst e2
    have := q xs hq
    rw [hx] at this
    cases this
    exact ⟨w', Wd.le.refl w', S, rx⟩
  · obtain ⟨xs, hq, r⟩ := h H w' l S.co.sub
    exact ⟨xs, hq, by rw [r.length]; exact Nat.le_refl _⟩
theorem iter_str {z : Str} : IterOk c (Its z) w (z.cps.toList.map fun k => .str ⟨#[k]⟩) := by
  refine ⟨fun i d B s σ H w' e l S => ?_, fun B s σ H w' l S => ?_⟩
  · rw [List.getElem?_map] at e
    cases q : z.cps.toList[i]? with
    | none => rw [q] at e; cases e
    | some k =>
      rw [q] at e
      cases e
      have hk : z.cps[i]? = some k := by rw [← Array.getElem?_toList]; exact q
      have hi : i < z.cps.size := (Array.getElem?_eq_some_iff.mp hk).1
      refine ⟨hi, fun y H' q => ?_⟩
      obtain ⟨e2, k', hk', e3⟩ := q
      subst e2
      rw [hk] at hk'
      cases hk'
      exact ⟨w', Wd.le.refl w', S, e3⟩
  · show z.cps.size ≤ _
    rw [List.length_map, Array.length_toList]
    exact Nat.le_refl _
theorem iter_rng {lo : Int} {n : Nat} : IterOk c (Itr lo n) w ((List.range n).map fun (i : Nat) => D.int (lo + i)) := by
  refine ⟨fun i d B s σ H w' e l S => ?_, fun B s σ H w' l S => ?_⟩
  · rw [List.getElem?_map] at e
    by_cases hi : i < n
    · rw [List.getElem?_range hi] at e
      cases e
      refine ⟨hi, fun y H' q => ?_⟩
      obtain ⟨e2, e3⟩ := q
      subst e2
      exact ⟨w', Wd.le.refl w', S, e3⟩
    · rw [List.getElem?_eq_none (by rw [List.length_range]; omega)] at e
      cases e
  · show n ≤ _
    rw [List.length_map, List.length_range]
    exact Nat.le_refl _
end
section
variable {X : Cx} {W : WX} {tg : Expr}
theorem di_seq {e : Expr} {m : M D} (h : DE X W e m) : DI X W tg e (mItems m) := by
  obtain ⟨t, ht, k⟩ := h
  refine ⟨_, PI.or (pi_list ht) (PI.or (pi_tup ht) (pi_str ht)), fun B s σ H w R S p => ?_⟩
  cases em : m s with
  | bad => unfold mItems bnd at p; rw [em] at p; exact p.elim
  | exc ex s1 =>
    refine .inl (k B s σ H w _ S ?_)
    unfold mItems bnd at p
    rw [em] at p ⊢
    exact p
  | ok d s1 =>
    have p0 : PostI (XC X) B W (fin2 (itemsI d) s1) σ w R := by
      unfold mItems bnd at p
      rw [em] at p
      exact p
    cases d with
    | lst ds =>
      refine .inl (k B s σ H w _ S ?_)
      rw [em]
      intro x H' w' l S1 r
      obtain ⟨a, xs, e1, h1, r1⟩ := r
      refine ⟨a, e1, ⟨xs, SqL.of (S1.co.sub.at h1 rfl)⟩, p0 _ H' w' l S1 (iter_lst fun H2 w2 l2 s2 => ⟨xs, SqL.of (s2.at ((l2.1.at h1 rfl)) rfl), RepWL.le l2 r1⟩)⟩
    | scr ns =>
      refine .inl (k B s σ H w _ S ?_)
      rw [em]
      intro x H' w' l S1 r
      obtain ⟨a, e1, h1⟩ := r
      refine ⟨a, e1, ⟨_, S1.co.sub.sqL h1⟩, p0 _ H' w' l S1 (iter_lst fun H2 w2 l2 s2 => ⟨_, s2.sqL (l2.1.sqL h1), ints_repL ns⟩)⟩
    | tup ds =>
      refine .inr (.inl (k B s σ H w _ S ?_))
      rw [em]
      intro x H' w' l S1 r
      obtain ⟨a, xs, e1, h1, r1⟩ := r
      refine ⟨a, e1, ⟨xs, S1.co.sub.sqT h1⟩, p0 _ H' w' l S1 (iter_tup fun H2 w2 l2 s2 => ⟨xs, s2.sqT (l2.1.sqT h1), RepWL.le l2 r1⟩)⟩
    | str z =>
      refine .inr (.inr (k B s σ H w _ S ?_))
      rw [em]
      intro x H' w' l S1 r
      exact ⟨z, r, p0 _ H' w' l S1 iter_str⟩
    | _ => exact p0.elim
def okR (i : Int) : Bool := decide (-(2 ^ 62) ≤ i) && decide (i < 2 ^ 62)
def rngI : List D → Option (List D)
  | [.int j] => if okR j then some ((List.range j.toNat).map fun (i : Nat) => .int (0 + i)) else none
  | [.int i, .int j] => if (okR i && okR j) then some ((List.range (j - i).toNat).map fun (k : Nat) => .int (i + k)) else none
  | _ => none
def mRng (m : M (List D)) : M (List D) := bnd m fun ds => fin2 (rngI ds)
theorem di_range1 {a : Expr} {m : M (List D)} {p pos : Pos} (hm : X.mg "range" = none) (ha : DA X W [a] m) (hl : ∀ s d s', m s = .ok d s' → d.length = 1) (hg : Gl X "range" := by rfl) (hs : starEach [a] X.env = [(false, eval a X.env)] := by rfl) : DI X W tg (.Call (.Name "range" p) [a] [] pos) (mRng m) := by
  obtain ⟨t, ht, k⟩ := ha
  refine ⟨_, pi_range1 hg hm ht hs, fun B s σ H w R S p => k B s σ H w _ S (posti_bnd p fun ds s1 xs H1 w1 e1 l1 S1 r1 p1 => ?_)⟩
  match ds, hl s ds s1 e1, r1, p1 with
  | [d], _, r1, p1 =>
    obtain ⟨y, ys, e2, ry, r2⟩ := r1
    have e3 : ys = [] := r2
    subst e3
    cases d with
    | int j =>
      have p2 : PostI (XC X) B W (fin2 (if okR j then some ((List.range j.toNat).map fun (i : Nat) => D.int (0 + i)) else none) s1) σ w1 R := p1
      clear p1
      split at p2
      · rename_i hj
        have p1 := p2
        have hj' := hj
        unfold okR at hj'
        rw [Bool.and_eq_true] at hj'
        refine ⟨j, by rw [e2, show y = V.int j from ry], of_decide_eq_true hj'.1, of_decide_eq_true hj'.2, ?_⟩
        exact p1 (Itr 0 j.toNat) H1 w1 (Wd.le.refl w1) S1 iter_rng
      · exact p2.elim
    | _ => exact p1.elim
theorem di_range2 {a b : Expr} {m : M (List D)} {p pos : Pos} (hm : X.mg "range" = none) (ha : DA X W [a, b] m) (hl : ∀ s d s', m s = .ok d s' → d.length = 2) (hg : Gl X "range" := by rfl) (hs : starEach [a, b] X.env = [(false, eval a X.env), (false, eval b X.env)] := by rfl) (hs2 : starEach [b] X.env = [(false, eval b X.env)] := by rfl) :
    DI X W tg (.Call (.Name "range" p) [a, b] [] pos) (mRng m) := by
  obtain ⟨t, ht, k⟩ := ha
  refine ⟨_, pi_range2 hg hm ht hs hs2, fun B s σ H w R S p => k B s σ H w _ S (posti_bnd p fun ds s1 xs H1 w1 e1 l1 S1 r1 p1 => ?_)⟩
  match ds, hl s ds s1 e1, r1, p1 with
  | [d, f], _, r1, p1 =>
    obtain ⟨y, z, e2, ry, rz⟩ := two_rep r1
    cases d with
    | int i =>
      cases f with
      | int j =>
        have p2 : PostI (XC X) B W (fin2 (if (okR i && okR j) then some ((List.range (j - i).toNat).map fun (k : Nat) => D.int (i + k)) else none) s1) σ w1 R := p1
        clear p1
        split at p2
        · rename_i hj
          have p1 := p2
          have hj' := hj
          unfold okR at hj'
          rw [Bool.and_eq_true, Bool.and_eq_true, Bool.and_eq_true] at hj'
          refine ⟨i, j, by rw [e2, show y = V.int i from ry, show z = V.int j from rz], ⟨of_decide_eq_true hj'.1.1, of_decide_eq_true hj'.1.2, of_decide_eq_true hj'.2.1, of_decide_eq_true hj'.2.2⟩, ?_⟩
          exact p1 (Itr i (j - i).toNat) H1 w1 (Wd.le.refl w1) S1 iter_rng
        · exact p2.elim
      | _ => exact p1.elim
    | _ => exact p1.elim
def enumL (ds : List D) : List D := ds.zipIdx.map fun p => .tup [.int p.2, p.1]
def enumI : List D → Option (List D)
  | [.lst ds] => some (enumL ds)
  | [.scr ns] => some (enumL (ns.map .int))
  | _ => none
def mEnum (m : M (List D)) : M (List D) := bnd m fun ds => fin2 (enumI ds)
theorem enumL_get {ds : List D} {i : Nat} {d : D} (h : (enumL ds)[i]? = some d) : ∃ e, ds[i]? = some e ∧ d = .tup [.int i, e] := by
  unfold enumL at h
  rw [List.getElem?_map, List.getElem?_zipIdx] at h
  cases q : ds[i]? with
  | none => rw [q] at h; cases h
  | some e =>
    rw [q] at h
    cases h
    exact ⟨e, rfl, by simp⟩
theorem enumL_len (ds : List D) : (enumL ds).length = ds.length := by simp [enumL]
theorem iter_enum {c : Ct} {w : Wd} {a : Addr} {ds : List D} (h : ∀ H w', w.le w' → Sub w'.F H → ∃ xs, SqL c.K H a xs ∧ RepWL c w' ds xs) : IterOk c (Ite c.K a) w (enumL ds) := by
  refine ⟨fun i d B s σ H w' e l S => ?_, fun B s σ H w' l S => ?_⟩
  · obtain ⟨e0, he, rfl⟩ := enumL_get e
    obtain ⟨xs, hq, r⟩ := h H w' l S.co.sub
    obtain ⟨x, hx, rx⟩ := r.get he
    refine ⟨⟨xs, x, hq, hx⟩, fun y H' q => ?_⟩
    obtain ⟨T, x', e1, hT, e2, q⟩ := q
    have := q xs hq
    rw [hx] at this
    cases this
    subst e2
    have F0 := S.free_F hT
    exact ⟨_, le_newF F0, S.newF hT, T, _, e1, SqT.of upd_same, RepL.cons rfl (RepL.one (RepW.le (le_newF F0) rx))⟩
  · obtain ⟨xs, hq, r⟩ := h H w' l S.co.sub
    exact ⟨xs, hq, by rw [enumL_len, r.length]; exact Nat.le_refl _⟩
theorem di_enum {e : Expr} {m : M (List D)} {p pos tpos : Pos} {elts : List Expr} {kk : Nat} (hm : X.mg "enumerate" = none) (ha : DA X W [e] m) (hg : Gl X "enumerate" := by rfl) (hs : starEach [e] X.env = [(false, eval e X.env)] := by rfl) :
    DI X W (.Tuple elts kk tpos) (.Call (.Name "enumerate" p) [e] [] pos) (mEnum m) := by
  obtain ⟨t, ht, k⟩ := ha
  refine ⟨_, pi_enum hg hm ht hs, fun B s σ H w R S p => k B s σ H w _ S (posti_bnd p fun ds s1 xs H1 w1 e1 l1 S1 r1 p1 => ?_)⟩
  unfold enumI at p1
  split at p1
  · obtain ⟨y, ys, e2, ry, r2⟩ := r1
    have e3 : ys = [] := r2
    subst e3
    obtain ⟨a, zs, e4, h4, r4⟩ := ry
    subst e4
    exact ⟨a, zs, e2, SqL.of (S1.co.sub.at h4 rfl), p1 _ H1 w1 (Wd.le.refl w1) S1 (iter_enum fun H2 w2 l2 s2 => ⟨zs, SqL.of (s2.at (l2.1.at h4 rfl) rfl), RepWL.le l2 r4⟩)⟩
  · obtain ⟨y, ys, e2, ry, r2⟩ := r1
    have e3 : ys = [] := r2
    subst e3
    obtain ⟨a, e4, h4⟩ := ry
    subst e4
    exact ⟨a, _, e2, S1.co.sub.sqL h4, p1 _ H1 w1 (Wd.le.refl w1) S1 (iter_enum fun H2 w2 l2 s2 => ⟨_, s2.sqL (l2.1.sqL h4), ints_repL _⟩)⟩
  · exact p1.elim
def zipL (as bs : List D) : List D := (as.zip bs).map fun p => .tup [p.1, p.2]
def zipI : List D → Option (List D)
  | [.lst as, .lst bs] => some (zipL as bs)
  | [.tup as, .tup bs] => some (zipL as bs)
  | _ => none
def mZip (m : M (List D)) : M (List D) := bnd m fun ds => fin2 (zipI ds)
theorem zipL_get {as bs : List D} {i : Nat} {d : D} (h : (zipL as bs)[i]? = some d) : ∃ a b, as[i]? = some a ∧ bs[i]? = some b ∧ d = .tup [a, b] := by
  unfold zipL at h
  rw [List.getElem?_map] at h
  cases q : (as.zip bs)[i]? with
  | none => rw [q] at h; cases h
  | some e =>
    rw [q] at h
    cases h
    obtain ⟨h1, h2⟩ := List.getElem?_zip_eq_some.mp q
    exact ⟨_, _, h1, h2, rfl⟩
theorem zipL_len (as bs : List D) : (zipL as bs).length = min as.length bs.length := by simp [zipL]
theorem iter_zipL {c : Ct} {w : Wd} {a b : Addr} {ds es : List D} (h : ∀ H w', w.le w' → Sub w'.F H → ∃ xs ys, SqL c.K H a xs ∧ RepWL c w' ds xs ∧ SqL c.K H b ys ∧ RepWL c w' es ys) : IterOk c (Itz c.K a b) w (zipL ds es) := by
  refine ⟨fun i d B s σ H w' e l S => ?_, fun B s σ H w' l S => ?_⟩
  · obtain ⟨d1, d2, h1, h2, rfl⟩ := zipL_get e
    obtain ⟨xs, ys, hq, r, hq2, r2⟩ := h H w' l S.co.sub
    obtain ⟨x, hx, rx⟩ := r.get h1
    obtain ⟨y, hy, ry⟩ := r2.get h2
    refine ⟨⟨xs, ys, x, y, hq, hq2, hx, hy⟩, fun v H' q => ?_⟩
    obtain ⟨T, x', y', e1, hT, e2, q1, q2⟩ := q
    have := q1 xs hq
    rw [hx] at this
    cases this
    have := q2 ys hq2
    rw [hy] at this
    cases this
    subst e2
    have F0 := S.free_F hT
    exact ⟨_, le_newF F0, S.newF hT, T, _, e1, SqT.of upd_same, RepL.cons (RepW.le (le_newF F0) rx) (RepL.one (RepW.le (le_newF F0) ry))⟩
  · obtain ⟨xs, ys, hq, r, hq2, r2⟩ := h H w' l S.co.sub
    refine ⟨xs, ys, hq, hq2, ?_⟩
    have := r.length
    have := r2.length
    rw [zipL_len]
    omega
theorem iter_zipT {c : Ct} {w : Wd} {a b : Addr} {ds es : List D} (h : ∀ H w', w.le w' → Sub w'.F H → ∃ xs ys, SqT c.K H a xs ∧ RepWL c w' ds xs ∧ SqT c.K H b ys ∧ RepWL c w' es ys) : IterOk c (RZ.ItzT c.K a b) w (zipL ds es) := by
  refine ⟨fun i d B s σ H w' e l S => ?_, fun B s σ H w' l S => ?_⟩
  · obtain ⟨d1, d2, h1, h2, rfl⟩ := zipL_get e
    obtain ⟨xs, ys, hq, r, hq2, r2⟩ := h H w' l S.co.sub
    obtain ⟨x, hx, rx⟩ := r.get h1
    obtain ⟨y, hy, ry⟩ := r2.get h2
    refine ⟨⟨xs, ys, x, y, hq, hq2, hx, hy⟩, fun v H' q => ?_⟩
    obtain ⟨T, x', y', e1, hT, e2, q1, q2⟩ := q
    have := q1 xs hq
    rw [hx] at this
    cases this
    have := q2 ys hq2
    rw [hy] at this
    cases this
    subst e2
    have F0 := S.free_F hT
    exact ⟨_, le_newF F0, S.newF hT, T, _, e1, SqT.of upd_same, RepL.cons (RepW.le (le_newF F0) rx) (RepL.one (RepW.le (le_newF F0) ry))⟩
  · obtain ⟨xs, ys, hq, r, hq2, r2⟩ := h H w' l S.co.sub
    refine ⟨xs, ys, hq, hq2, ?_⟩
    have := r.length
    have := r2.length
    rw [zipL_len]
    omega
theorem di_zip {e e2 : Expr} {m : M (List D)} {p pos tpos : Pos} {elts : List Expr} {kk : Nat} (hm : X.mg "zip" = none) (ha : DA X W [e, e2] m) (hg : Gl X "zip" := by rfl)
    (hs : starEach [e, e2] X.env = (false, eval e X.env) :: starEach [e2] X.env := by rfl) (hpl : (backTo pos (starEach [e2] X.env)).any (·.1) = false := by rfl) :
    DI X W (.Tuple elts kk tpos) (.Call (.Name "zip" p) [e, e2] [] pos) (mZip m) := by
  obtain ⟨t, ht, k⟩ := ha
  refine ⟨_, RZ.pi_zipA hg hm ht hs hpl, fun B s σ H w R S p => k B s σ H w _ S (posti_bnd p fun ds s1 xs H1 w1 e1 l1 S1 r1 p1 => ?_)⟩
  unfold zipI at p1
  split at p1
  · obtain ⟨y, z, e2, ry, rz⟩ := two_rep r1
    obtain ⟨a, us, e4, h4, r4⟩ := ry
    obtain ⟨b, vs, e5, h5, r5⟩ := rz
    subst e4 e5
    exact ⟨a, b, us, vs, e2, .inl ⟨SqL.of (S1.co.sub.at h4 rfl), SqL.of (S1.co.sub.at h5 rfl), p1 _ H1 w1 (Wd.le.refl w1) S1 (iter_zipL fun H2 w2 l2 s2 => ⟨us, vs, SqL.of (s2.at (l2.1.at h4 rfl) rfl), RepWL.le l2 r4, SqL.of (s2.at (l2.1.at h5 rfl) rfl), RepWL.le l2 r5⟩)⟩⟩
  · obtain ⟨y, z, e2, ry, rz⟩ := two_rep r1
    obtain ⟨a, us, e4, h4, r4⟩ := ry
    obtain ⟨b, vs, e5, h5, r5⟩ := rz
    subst e4 e5
    exact ⟨a, b, us, vs, e2, .inr ⟨S1.co.sub.sqT h4, S1.co.sub.sqT h5, p1 _ H1 w1 (Wd.le.refl w1) S1 (iter_zipT fun H2 w2 l2 s2 => ⟨us, vs, s2.sqT (l2.1.sqT h4), RepWL.le l2 r4, s2.sqT (l2.1.sqT h5), RepWL.le l2 r5⟩)⟩⟩
  · exact p1.elim
end
def forGo (f : D → M Unit) (body : MS) : List D → MS
  | [] => fun s => .ok .nx s
  | d :: ds => fun s => match f d s with
    | .ok _ s1 => (match body s1 with
      | .ok .nx s' => forGo f body ds s'
      | .ok .ct s' => forGo f body ds s'
      | .ok .bk s' => .ok .nx s'
      | r => r)
    | _ => .bad
def mFor (mi : M (List D)) (f : D → M Unit) (body : MS) : MS := bnd mi (forGo f body)
theorem drop_cons {α : Type} {l : List α} {i : Nat} {d : α} (h : l[i]? = some d) : l.drop i = d :: l.drop (i + 1) := by
  obtain ⟨hi, e⟩ := List.getElem?_eq_some_iff.mp h
  rw [← e, List.drop_eq_getElem_cons hi]
section
variable {X : Cx} {W : WX} {tg : Expr}
theorem postsI {c : Ct} {B : Bs} {m : M (List D)} {f : List D → MS} {s : S} {w : Wd} {σ : L2.St} {D : Ends} {Q : It → Hp → Prop} (h : PostS c B W (bnd m f s) w D)
    (k : ∀ ds s1 J H1 w1, m s = .ok ds s1 → w.le w1 → Sim c B s1 σ H1 w1 → IterOk c J w1 ds → PostS c B W (f ds s1) w1 D → Q J H1) : PostI c B W (m s) σ w Q := by
  unfold bnd at h
  cases e : m s with
  | ok a s1 =>
    rw [e] at h
    exact fun x H1 w1 l S1 r => k a s1 x H1 w1 e l S1 r (PostS.up h l)
  | exc ex s1 => rw [e] at h; exact h
  | bad => rw [e] at h; exact h
theorem ds_for {iter : Expr} {body : List Stmt} {mi : M (List D)} {is : List Nat} {f : D → M Unit} {mb : MS} {pos : Pos} (hp : PassesOwn (model X.prog X.w) X.A X.env X.xe) (hi : DI X W tg iter mi) (hg : DG X tg is f) (hb : DSs X W body mb) (hc : X.calm = true := by rfl)
    (hs : ∀ x, foldedSetIterable iter X.env x = pure x := by intro _; rfl) : DS X W (.For tg iter body [] pos) (mFor mi f mb) := by
  obtain ⟨wi, pwi, kwi⟩ := hi
  obtain ⟨g, pg, kg⟩ := hg
  obtain ⟨tb, ptb, ktb⟩ := hb
  refine ds_of (ps_for hp hc pwi pg ptb hs) fun B s σ H w D S p => kwi B s σ H w _ S (postsI p fun items s1 J H1 w1 _ l1 S1 J1 p1 => ?_)
  refine ⟨fun i m σ H => ∃ s2 w2, i ≤ items.length ∧ m = items.length - i ∧ w1.le w2 ∧ Sim (XC X) B s2 σ H w2 ∧ PostS (XC X) B W (forGo f mb (items.drop i) s2) w2 D, ⟨items.length - 0, s1, w1, Nat.zero_le _, rfl, Wd.le.refl w1, S1, p1⟩, ?_⟩
  rintro i m σ2 H2 ⟨s2, w2, hi, rfl, l2, S2, p2⟩
  by_cases hlt : i < items.length
  · right
    obtain ⟨d, hd⟩ : ∃ d, items[i]? = some d := ⟨items[i], List.getElem?_eq_getElem hlt⟩
    obtain ⟨g1, g2⟩ := J1.go i d B s2 σ2 H2 w2 hd l2 S2
    rw [drop_cons hd] at p2
    refine ⟨g1, fun σ' H' => ∃ s3 w3, w1.le w3 ∧ Sim (XC X) B s3 σ' H' w3 ∧ PostS (XC X) B W (forGo f mb (items.drop (i + 1)) s3) w3 D, fun σ' H' ⟨s3, w3, l3, S3, p3⟩ => ⟨items.length - (i + 1), by omega, s3, w3, hlt, rfl, l3, S3, p3⟩, fun x H' y => ?_⟩
    obtain ⟨w3, l3, S3, r3⟩ := g2 x H' y
    have p3 := PostS.up p2 l3
    unfold forGo at p3
    refine kg B s2 σ2 H' w3 d x _ S3 r3 ?_
    cases ef : f d s2 with
    | ok u s4 =>
      simp only [ef] at p3
      intro σ4 H4 w4 l4 S4 _
      refine ktb B s4 σ4 H4 w4 _ S4 ?_
      have p4 := PostS.up p3 l4
      have l14 := l2.trans (l3.trans l4)
      cases eb : mb s4 with
      | ok fl s5 =>
        simp only [eb] at p4
        cases fl with
        | nx => exact fun σ5 H5 w5 l5 S5 => ⟨s5, w5, l14.trans l5, S5, PostS.up p4 l5⟩
        | ct => exact fun σ5 H5 w5 l5 S5 => ⟨s5, w5, l14.trans l5, S5, PostS.up p4 l5⟩
        | bk => exact p4
        | rt d => exact p4
      | exc ex s5 => simp only [eb] at p4; exact p4
      | bad => simp only [eb] at p4; exact p4
    | exc ex s4 => simp only [ef] at p3; exact p3.elim
    | bad => simp only [ef] at p3; exact p3.elim
  · left
    have e : i = items.length := by omega
    subst e
    refine ⟨J1.stop B s2 σ2 H2 w2 l2 S2, ?_⟩
    rw [List.drop_length] at p2
    exact p2 σ2 H2 w2 (Wd.le.refl w2) S2
end
end DM
set_option Elab.async false
set_option linter.all false
set_option maxRecDepth 100000
set_option maxHeartbeats 400000
namespace DM
open PySem PySem.Spec PyProof.Rows L2
def wipeE : List (Option Slot) → List Nat → List (Option Slot)
  | e, [] => e
  | e, v :: vs => (wipeE e vs).set v none
theorem wipeE_len : ∀ (e : List (Option Slot)) (vs : List Nat), (wipeE e vs).length = e.length
  | _, [] => rfl
  | e, v :: vs => by unfold wipeE; rw [List.length_set, wipeE_len e vs]
theorem wipeE_some {e : List (Option Slot)} {j : Nat} {t : Slot} : ∀ {vs : List Nat}, (wipeE e vs)[j]? = some (some t) → e[j]? = some (some t) ∧ j ∉ vs
  | [], h => ⟨h, by simp⟩
  | v :: vs, h => by
    unfold wipeE at h
    by_cases hj : v = j
    · subst hj
      rw [List.getElem?_set] at h
      simp at h
    · rw [List.getElem?_set_ne hj] at h
      obtain ⟨h1, h2⟩ := wipeE_some h
      exact ⟨h1, fun m => (List.mem_cons.mp m).elim (fun z => hj z.symm) h2⟩
def wipeS (vs : List Nat) (s : S) : S := ⟨wipeE s.env vs, s.cells⟩
def backE (e0 : List (Option Slot)) : List (Option Slot) → List Nat → List (Option Slot)
  | e, [] => e
  | e, v :: vs => match e0[v]? with
    | some (some (.val d)) => (backE e0 e vs).set v (some (.val d))
    | _ => backE e0 e vs
def backS (s0 : S) (vs : List Nat) (s : S) : S := ⟨backE s0.env s.env vs, s.cells⟩
def Bs.lend (B : Bs) (a : Addr) (u : HO) : Bs := ⟨fun b => if b = a then some .priv else B.T b, fun b => if b = a then some u else B.H b, B.me⟩
def lendT (T : Addr → Option Tag) (a : Addr) : Addr → Option Tag := fun b => if b = a then some .priv else T b
def freeT (T : Addr → Option Tag) (a : Addr) : Addr → Option Tag := fun b => if b = a then none else T b
section
variable {c : Ct} {B : Bs} {s : S} {σ : L2.St} {H : Hp} {w : Wd} {a : Addr} {u : HO}
theorem Sim.wipe (S : Sim c B s σ H w) (vs : List Nat) : Sim c B (wipeS vs s) (L2.wipe σ vs) H w :=
  ⟨S.co, by show (wipeE s.env vs).length = _; rw [wipeE_len, wipe_length]; exact S.len, fun i t e => by
    obtain ⟨h1, h2⟩ := wipeE_some e
    obtain ⟨x, hx, k⟩ := S.sl i t h1
    exact ⟨x, by rw [wipe_get, if_neg h2]; exact hx, k⟩, S.fr, fun i cn fs x e ex => S.me i cn fs x (wipeE_some e).1 (wipe_some ex).1⟩
theorem Sim.unwipe {vs : List Nat} (S : Sim c B s (L2.wipe σ vs) H w) : Sim c B s σ H w :=
  ⟨S.co, by have := S.len; rw [wipe_length] at this; exact this, fun i t e => by
    obtain ⟨x, hx, k⟩ := S.sl i t e
    exact ⟨x, (wipe_some hx).1, k⟩, S.fr, fun i cn fs x e ex => by
    obtain ⟨y, hy, k⟩ := S.sl i _ e
    have z := (wipe_some hy).1
    rw [ex] at z
    cases z
    exact S.me i cn fs x e hy⟩
theorem Sim.addVal (S : Sim c B s σ H w) {i : Nat} {d : D} {x : V} (hx : σ[i]? = some (some x)) (r : RepW c w d x) : Sim c B ⟨s.env.set i (some (.val d)), s.cells⟩ σ H w :=
  ⟨S.co, by show (s.env.set i _).length = _; rw [List.length_set]; exact S.len, fun j t e => by
    by_cases hj : j = i
    · subst hj
      have hl : j < s.env.length := by
        rw [S.len]
        exact (List.getElem?_eq_some_iff.mp hx).1
      rw [get_set_self hl] at e
      cases e
      exact ⟨x, hx, r⟩
    · rw [get_set_ne hj] at e
      exact S.sl j t e, S.fr, fun j cn fs y e ey => by
    by_cases hj : j = i
    · subst hj
      have hl : j < s.env.length := by
        rw [S.len]
        exact (List.getElem?_eq_some_iff.mp hx).1
      rw [get_set_self hl] at e
      cases e
    · rw [get_set_ne hj] at e
      exact S.me j cn fs y e ey⟩
theorem Sim.backS {c : Ct} {B B0 : Bs} {s s0 : S} {σ : L2.St} {H H0 : Hp} {w w0 : Wd} (S0 : Sim c B0 s0 σ H0 w0) (l : w0.le w) (S : Sim c B s σ H w) : ∀ vs : List Nat, Sim c B (DM.backS s0 vs s) σ H w
  | [] => S
  | v :: vs => by
    have ih := Sim.backS S0 l S vs
    show Sim c B ⟨backE s0.env s.env (v :: vs), s.cells⟩ σ H w
    unfold backE
    split
    · rename_i d e
      obtain ⟨x, hx, k⟩ := S0.sl v _ e
      exact Sim.addVal ih hx (RepW.le l k)
    · exact ih
theorem le_T {T : Addr → Option Tag} : w.le ⟨w.F, w.m, T⟩ := ⟨Sub.refl _, List.prefix_refl _⟩
theorem Sim.lend (S : Sim c B s σ H w) (h1 : H a = some u) (h2 : w.F a = none) (h3 : w.T a = none) : Sim c (B.lend a u) s σ H ⟨w.F, w.m, lendT w.T a⟩ := by
  have S1 : Sim c B s σ H ⟨w.F, w.m, lendT w.T a⟩ := S.step (fun _ => True) le_T (fun b t o _ k1 k2 => ⟨by
      show lendT w.T a b = some t
      unfold lendT
      rw [if_neg fun e => by rw [e, h3] at k1; cases k1]
      exact k1, k2⟩) trivial S.co.sub (fun b t h => by
      have h' : lendT w.T a b = some t := h
      unfold lendT at h'
      by_cases hb : b = a
      · rw [hb]; exact ⟨h2, by rw [h1]; intro q; cases q⟩
      · rw [if_neg hb] at h'; exact S.co.tg b t h') S.len (fun i t h => .inl ⟨trivial, h, rfl⟩) S.co.len fun n cl h => .inl ⟨fun _ _ => trivial, h⟩
  refine ⟨S1.co, S1.len, S1.sl, fun b hb => ?_, S1.me⟩
  have hb' : (if b = a then some Tag.priv else B.T b) = some .priv := hb
  show lendT w.T a b = some .priv ∧ H b = (if b = a then some u else B.H b)
  by_cases e : b = a
  · subst e
    exact ⟨if_pos rfl, by rw [if_pos rfl]; exact h1⟩
  · rw [if_neg e] at hb'
    rw [if_neg e]
    obtain ⟨k1, k2⟩ := S.fr b hb'
    exact ⟨by unfold lendT; rw [if_neg e]; exact k1, k2⟩
theorem Sim.lent (S : Sim c (B.lend a u) s σ H w) : w.T a = some .priv ∧ H a = some u := by
  obtain ⟨h1, h2⟩ := S.fr a (if_pos rfl)
  exact ⟨h1, h2.trans (if_pos rfl)⟩
theorem Sim.relend {v : HO} (S : Sim c (B.lend a u) s σ H w) : Sim c (B.lend a v) s σ (upd H a v) w := by
  obtain ⟨h1, h2⟩ := S.lent
  refine ⟨⟨mut_sub S.co.sub (S.co.tg a _ h1).1, fun b t h => ⟨(S.co.tg b t h).1, fun q => ?_⟩, S.co.len, fun n cl e => ?_⟩, S.len, fun i t e => ?_, fun b hb => ?_, S.me⟩
  · by_cases hb : b = a
    · rw [hb, upd_same] at q; cases q
    · rw [upd_ne hb] at q; exact (S.co.tg b t h).2 q
  · obtain ⟨b, k1, k2, k3⟩ := S.co.at_ n cl e
    refine ⟨b, k1, k2, CellOk.mono (w' := w) (fun t x o ht j1 j2 => ⟨j1, ?_⟩) (Wd.le.refl w) k2 k3⟩
    rw [upd_ne fun z => by rw [z, h1] at j1; cases j1; exact ht]
    exact j2
  · obtain ⟨x, hx, k⟩ := S.sl i t e
    refine ⟨x, hx, SlotOk.mono (w' := w) (fun b o j1 j2 => ⟨j1, ?_⟩) (Wd.le.refl w) k⟩
    rw [upd_ne fun z => by rw [z, h1] at j1; cases j1]
    exact j2
  · have hb' : (if b = a then some Tag.priv else B.T b) = some .priv := hb
    show w.T b = some .priv ∧ upd H a v b = (if b = a then some v else B.H b)
    by_cases e : b = a
    · subst e
      exact ⟨h1, by rw [if_pos rfl, upd_same]⟩
    · obtain ⟨k1, k2⟩ := S.fr b hb
      rw [if_neg e, upd_ne e]
      exact ⟨k1, k2.trans (if_neg e)⟩
theorem Sim.unlend (S : Sim c (B.lend a u) s σ H w) (hB : B.T a ≠ some .priv) : Sim c B s σ H ⟨w.F, w.m, freeT w.T a⟩ := by
  obtain ⟨h1, h2⟩ := S.lent
  refine ⟨⟨S.co.sub, fun b t h => ?_, S.co.len, fun n cl e => ?_⟩, S.len, fun i t e => ?_, fun b hb => ?_, S.me⟩
  · have h' : freeT w.T a b = some t := h
    unfold freeT at h'
    by_cases hb : b = a
    · rw [if_pos hb] at h'; cases h'
    · rw [if_neg hb] at h'; exact S.co.tg b t h'
  · obtain ⟨b, k1, k2, k3⟩ := S.co.at_ n cl e
    have ne : ∀ (x : Addr) (t : Tag), tagCell n t → w.T x = some t → freeT w.T a x = some t := fun x t ht j1 => by
      unfold freeT
      rw [if_neg fun z => by rw [z, h1] at j1; cases j1; exact ht]
      exact j1
    exact ⟨b, k1, ne b _ rfl k2, CellOk.mono (w' := ⟨w.F, w.m, freeT w.T a⟩) (fun t x o ht j1 j2 => ⟨ne x t ht j1, j2⟩) le_T k2 k3⟩
  · obtain ⟨x, hx, k⟩ := S.sl i t e
    refine ⟨x, hx, SlotOk.mono (w' := ⟨w.F, w.m, freeT w.T a⟩) (fun b o j1 j2 => ⟨?_, j2⟩) le_T k⟩
    show freeT w.T a b = _
    unfold freeT
    rw [if_neg fun z => by rw [z, h1] at j1; cases j1]
    exact j1
  · have hne : b ≠ a := fun e => hB (by rw [← e]; exact hb)
    obtain ⟨k1, k2⟩ := S.fr b (show (if b = a then some Tag.priv else B.T b) = some .priv by rw [if_neg hne]; exact hb)
    exact ⟨by show freeT w.T a b = _; unfold freeT; rw [if_neg hne]; exact k1, k2.trans (if_neg hne)⟩
theorem Sim.notPriv (S : Sim c B s σ H w) (h : w.T a = none) : B.T a ≠ some .priv := fun e => by
  rw [(S.fr a e).1] at h; cases h
theorem Sim.unlendF (S : Sim c (B.lend a u) s σ H w) (hB : B.T a ≠ some .priv) : w.le ⟨w.F, w.m, freeT w.T a⟩ ∧ Sim c B s σ H ⟨w.F, w.m, freeT w.T a⟩ ∧ H a = some u ∧ w.F a = none ∧ freeT w.T a a = none :=
  ⟨le_T, S.unlend hB, S.lent.2, (S.co.tg a _ S.lent.1).1, if_pos rfl⟩
end
def lcGo {α : Type} (f : D → M Unit) (tt : M Bool) (inner : M (List α)) (vs : List Nat) : List D → M (List α)
  | [] => fun s => .ok [] s
  | d :: ds => fun s => match f d s with
    | .ok _ s1 => (match tt s1 with
      | .ok true s2 => (match inner s2 with
        | .ok xs s3 => (match lcGo f tt inner vs ds (wipeS vs s3) with
          | .ok ys s4 => .ok (xs ++ ys) s4
          | _ => .bad)
        | _ => .bad)
      | .ok false s2 => lcGo f tt inner vs ds (wipeS vs s2)
      | _ => .bad)
    | _ => .bad
def lcOne (te : M D) : M (List D) := fun s => match te s with
  | .ok d s' => .ok [d] s'
  | _ => .bad
def lcIn (mi : M (List D)) (go : List D → M (List D)) (vs : List Nat) : M (List D) := fun s => match mi s with
  | .ok items s1 => go items (wipeS vs s1)
  | _ => .bad
def lcTop (s0 : S) (vs : List Nat) (r : Res (List D)) : Res (List D) := match r with
  | .ok ys s => if small ys then .ok ys (backS s0 vs s) else .bad
  | _ => .bad
def mComp (mi : M (List D)) (go : List D → M (List D)) (vs : List Nat) : M (List D) := bnd mi fun items => fun s => lcTop s vs (go items (wipeS vs s))
def mYes : M Bool := ret true
abbrev WF : WX := fun _ _ _ _ => False
def CPost (c : Ct) (B : Bs) (a : Addr) (r : Res (List D)) (σ : L2.St) (w : Wd) (accD : List D) (K : Hp → Prop) : Prop :=
  match r with
  | .ok ys s => accD.length + ys.length ≤ 1000000 ∧ ∀ H' w' acc', w.le w' → Sim c (B.lend a (.lst acc')) s σ H' w' → RepWL c w' (accD ++ ys) acc' → K H'
  | _ => False
theorem CPost.up {c : Ct} {B : Bs} {a : Addr} {r : Res (List D)} {σ : L2.St} {w w' : Wd} {accD : List D} {K : Hp → Prop} (h : CPost c B a r σ w accD K) (l : w.le w') : CPost c B a r σ w' accD K := by
  cases r with
  | ok ys s => exact ⟨h.1, fun H' w2 acc' l2 => h.2 H' w2 acc' (l.trans l2)⟩
  | exc e s => exact h
  | bad => exact h
abbrev CBody := L2.St → Hp → (Hp → Prop) → Prop
def BodyOk (c : Ct) (B : Bs) (a : Addr) (inner : M (List D)) (body : CBody) : Prop := ∀ s σ H w acc accD K, Sim c (B.lend a (.lst acc)) s σ H w → RepWL c w accD acc → CPost c B a (inner s) σ w accD K → body σ H K
def LV (J : It) (K : Hp → Prop) (σ : L2.St) (g : TG) (tt : TT) (vs : List Nat) (body : CBody) (H0 : Hp) : Prop := ∃ W : Nat → Nat → Hp → Prop, (∃ m, W 0 m H0) ∧ ∀ i m H, W i m H →
  (J.stop i H ∧ K H) ∨ (J.go i H ∧ ∃ Nx : Hp → Prop, (∀ H', Nx H' → ∃ m', m' < m ∧ W (i + 1) m' H') ∧ ∀ x H', J.yld i H x H' → g x (wipe σ vs) H' fun σ2 H2 => wipe σ2 vs = wipe σ vs ∧ tt σ2 H2 fun b H3 =>
    if b = true then body σ2 H3 Nx else Nx H3)
def SndG (c : Ct) (is : List Nat) (f : D → M Unit) (g : TG) : Prop := ∀ B s σ H w d x Q, Sim c B s σ H w → RepW c w d x → PostU c B is (f d s) σ w Q → g x σ H Q
def SndT (c : Ct) (m : M Bool) (t : TT) : Prop := ∀ B s σ H w Q, Sim c B s σ H w → Post c B WF (fun _ a b => a = b) (m s) σ w Q → t σ H Q
def SndE (c : Ct) (m : M D) (t : TE) : Prop := ∀ B s σ H w Q, Sim c B s σ H w → Post c B WF (RepW c) (m s) σ w Q → t σ H Q
def SndI (c : Ct) (m : M (List D)) (wi : TI) : Prop := ∀ B s σ H w R, Sim c B s σ H w → PostI c B WF (m s) σ w R → wi σ H R
theorem lv_ok {c : Ct} {B : Bs} {a : Addr} {is vs : List Nat} {f : D → M Unit} {g : TG} {m : M Bool} {tt : TT} {inner : M (List D)} {body : CBody} (hg : SndG c is f g) (ht : SndT c m tt) (hb : BodyOk c B a inner body) (hv : ∀ i ∈ is, i ∈ vs)
    {J : It} {w0 w : Wd} {items : List D} (J1 : IterOk c J w0 items) (l0 : w0.le w) {s : S} {σ : L2.St} {H : Hp} {acc : List V} {accD : List D} {K : Hp → Prop} (S : Sim c (B.lend a (.lst acc)) s (wipe σ vs) H w) (r : RepWL c w accD acc)
    (p : CPost c B a (lcGo f m inner vs items s) (wipe σ vs) w accD K) : LV J K σ g tt vs body H := by
  refine ⟨fun i n H => i ≤ items.length ∧ n = items.length - i ∧ ∃ s w acc accD, w0.le w ∧ Sim c (B.lend a (.lst acc)) s (wipe σ vs) H w ∧ RepWL c w accD acc ∧ CPost c B a (lcGo f m inner vs (items.drop i) s) (wipe σ vs) w accD K,
    ⟨items.length - 0, Nat.zero_le _, rfl, s, w, acc, accD, l0, S, r, p⟩, ?_⟩
  rintro i n H2 ⟨hi, rfl, s2, w2, acc2, accD2, l2, S2, r2, p2⟩
  by_cases hlt : i < items.length
  · right
    obtain ⟨d, hd⟩ : ∃ d, items[i]? = some d := ⟨items[i], List.getElem?_eq_getElem hlt⟩
    obtain ⟨g1, g2⟩ := J1.go i d _ s2 _ H2 w2 hd l2 S2
    rw [drop_cons hd] at p2
    refine ⟨g1, fun H' => ∃ s w acc accD, w0.le w ∧ Sim c (B.lend a (.lst acc)) s (wipe σ vs) H' w ∧ RepWL c w accD acc ∧ CPost c B a (lcGo f m inner vs (items.drop (i + 1)) s) (wipe σ vs) w accD K,
      fun H' q => ⟨items.length - (i + 1), by omega, hlt, rfl, q⟩, fun x H' y => ?_⟩
    obtain ⟨w3, l3, S3, r3⟩ := g2 x H' y
    have p3 := CPost.up p2 l3
    unfold lcGo at p3
    refine hg _ s2 _ H' w3 d x _ S3 r3 ?_
    cases ef : f d s2 with
    | exc ex s4 => simp only [ef] at p3; exact p3.elim
    | bad => simp only [ef] at p3; exact p3.elim
    | ok u s4 =>
      simp only [ef] at p3
      intro σ4 H4 w4 l4 S4 o4
      have ew : wipe σ4 vs = wipe σ vs := by
        rw [o4 vs hv]
        apply List.ext_getElem?
        intro j
        rw [wipe_get, wipe_length, wipe_get]
        by_cases h : j ∈ vs
        · rw [if_pos h, if_pos h]
        · rw [if_neg h, if_neg h]
      refine ⟨ew, ?_⟩
      have p4 := CPost.up p3 l4
      refine ht _ s4 σ4 H4 w4 _ S4 ?_
      cases et : m s4 with
      | exc ex s5 => simp only [et] at p4; exact p4.elim
      | bad => simp only [et] at p4; exact p4.elim
      | ok b s5 =>
        intro b' H5 w5 l5 S5 eb
        subst eb
        have l25 := l2.trans (l3.trans (l4.trans l5))
        cases b with
        | false =>
          simp only [et] at p4
          rw [if_neg Bool.false_ne_true]
          have S6 := S5.wipe vs
          rw [ew] at S6
          exact ⟨_, w5, acc2, accD2, l25, S6, RepWL.le (l3.trans (l4.trans l5)) r2, CPost.up p4 l5⟩
        | true =>
          simp only [et] at p4
          rw [if_pos rfl]
          refine hb s5 σ4 H5 w5 acc2 accD2 _ S5 (RepWL.le (l3.trans (l4.trans l5)) r2) ?_
          have p5 := CPost.up p4 l5
          cases ei : inner s5 with
          | exc ex s6 => simp only [ei] at p5; exact p5.elim
          | bad => simp only [ei] at p5; exact p5.elim
          | ok xs s6 =>
            simp only [ei] at p5
            cases er : lcGo f m inner vs (items.drop (i + 1)) (wipeS vs s6) with
            | exc ex s7 => simp only [er] at p5; exact p5.elim
            | bad => simp only [er] at p5; exact p5.elim
            | ok ys s7 =>
              simp only [er] at p5
              obtain ⟨q1, q2⟩ := p5
              rw [List.length_append] at q1
              refine ⟨by omega, fun H6 w6 acc6 l6 S6 r6 => ?_⟩
              have S7 := S6.wipe vs
              rw [ew] at S7
              refine ⟨_, w6, acc6, accD2 ++ xs, l25.trans l6, S7, r6, ?_⟩
              rw [er]
              refine ⟨by rw [List.length_append]; omega, fun H8 w8 acc8 l8 S8 r8 => q2 H8 w8 acc8 (l6.trans l8) S8 (by rw [← List.append_assoc]; exact r8)⟩
  · left
    have e : i = items.length := by omega
    subst e
    refine ⟨J1.stop _ s2 _ H2 w2 l2 S2, ?_⟩
    rw [List.drop_length] at p2
    exact p2.2 H2 w2 acc2 (Wd.le.refl w2) S2 (by rw [List.append_nil]; exact r2)
def leafB (te : TE) (a : Addr) : CBody := fun σ H K => te σ H fun y H4 => ∃ acc, H4 a = some (.lst acc) ∧ acc.length < sizeLine ∧ K (upd H4 a (.lst (acc ++ [y])))
theorem leaf_ok {c : Ct} {B : Bs} {a : Addr} {m : M D} {te : TE} (he : SndE c m te) : BodyOk c B a (lcOne m) (leafB te a) := by
  intro s σ H w acc accD K S r p
  refine he _ s σ H w _ S ?_
  unfold lcOne at p
  cases em : m s with
  | exc ex s1 => simp only [em] at p; exact p.elim
  | bad => simp only [em] at p; exact p.elim
  | ok d s1 =>
    simp only [em] at p
    obtain ⟨p1, p2⟩ := p
    intro x H' w' l S' rx
    have hl := r.length
    refine ⟨acc, S'.lent.2, ?_, p2 _ w' (acc ++ [x]) l S'.relend (RepL.append (RepWL.le l r) (RepL.one rx))⟩
    have h2 : (1000000 : Nat) < sizeLine := by decide
    have h3 : [d].length = 1 := rfl
    omega
def nestB (wi : TI) (g : TG) (tt : TT) (vs : List Nat) (body : CBody) : CBody := fun σ H K => wi σ H fun J H1 => LV J K σ g tt vs body H1
theorem nest_ok {c : Ct} {B : Bs} {a : Addr} {is vs : List Nat} {mi : M (List D)} {wi : TI} {f : D → M Unit} {g : TG} {m : M Bool} {tt : TT} {inner : M (List D)} {body : CBody} (hi : SndI c mi wi) (hg : SndG c is f g) (ht : SndT c m tt) (hb : BodyOk c B a inner body) (hv : ∀ i ∈ is, i ∈ vs) :
    BodyOk c B a (lcIn mi (lcGo f m inner vs) vs) (nestB wi g tt vs body) := by
  intro s σ H w acc accD K S r p
  refine hi _ s σ H w _ S ?_
  unfold lcIn at p
  cases em : mi s with
  | exc ex s1 => simp only [em] at p; exact p.elim
  | bad => simp only [em] at p; exact p.elim
  | ok items s1 =>
    simp only [em] at p
    intro J H1 w1 l1 S1 J1
    refine lv_ok hg ht hb hv J1 (Wd.le.refl w1) (S1.wipe vs) (RepWL.le l1 r) ?_
    have p1 := CPost.up p l1
    cases eg : lcGo f m inner vs items (wipeS vs s1) with
    | exc ex s2 => rw [eg] at p1; exact p1
    | bad => rw [eg] at p1; exact p1
    | ok ys s2 =>
      rw [eg] at p1
      exact ⟨p1.1, fun H' w' acc' l' S' r' => p1.2 H' w' acc' l' S'.unwipe r'⟩
theorem top_ok {c : Ct} {B : Bs} {W : WX} {mi : M (List D)} {wi : TI} {is vs : List Nat} {f : D → M Unit} {g : TG} {m : M Bool} {tt : TT} {inner : M (List D)} {body : Addr → CBody} (hi : ∀ B s σ H w R, Sim c B s σ H w → PostI c B W (mi s) σ w R → wi σ H R)
    (hg : SndG c is f g) (ht : SndT c m tt) (hb : ∀ B a, BodyOk c B a inner (body a)) (hv : ∀ i ∈ is, i ∈ vs) {s : S} {σ : L2.St} {H : Hp} {w : Wd} {Q : V → Hp → Prop} (S : Sim c B s σ H w) (p : PostF c B W (mComp mi (lcGo f m inner vs) vs s) σ w Q) :
    wi σ H fun J H1 => ∀ a, H1 a = none → LV J (Q (.ref a)) σ g tt vs (body a) (upd H1 a (.lst [])) := by
  refine hi B s σ H w _ S ?_
  unfold mComp bnd at p
  cases em : mi s with
  | exc ex s1 => rw [em] at p; exact p
  | bad => rw [em] at p; exact p
  | ok items s1 =>
    rw [em] at p
    intro J H1 w1 l1 S1 J1 a ha
    have F0 := S1.free_F ha
    have T0 := S1.free_T ha
    have S2 := (S1.new (o := .lst []) ha).lend (u := .lst []) upd_same F0 T0
    refine lv_ok (B := B) (accD := []) hg ht (hb B a) hv J1 (w := ⟨w1.F, w1.m, lendT w1.T a⟩) le_T (S2.wipe vs) rfl ?_
    have p1 : PostF c B W (lcTop s1 vs (lcGo f m inner vs items (wipeS vs s1))) σ w Q := p
    unfold lcTop at p1
    cases eg : lcGo f m inner vs items (wipeS vs s1) with
    | exc ex s2 => simp only [eg] at p1; exact p1.elim
    | bad => simp only [eg] at p1; exact p1.elim
    | ok ys s2 =>
      simp only [eg] at p1
      split at p1
      · rename_i hz
        refine ⟨by have := Nat.le_of_ble_eq_true hz; simp only [List.length_nil]; omega, fun H' w' acc' l' S' r' => ?_⟩
        obtain ⟨l3, S3, h1, h2, h3⟩ := S'.unwipe.unlendF (S1.notPriv T0)
        have l4 : w1.le w' := Wd.le.trans le_T l'
        exact p1 (.ref a) H' _ (l1.trans (l4.trans l3)) (Sim.backS S1 (l4.trans l3) S3 vs) ⟨a, acc', rfl, h1, h2, h3, RepWL.le l3 r'⟩
      · exact p1.elim
end DM
set_option Elab.async false
set_option linter.all false
set_option maxRecDepth 100000
set_option maxHeartbeats 400000
namespace DM
open PySem PySem.Spec PyProof.Rows L2
structure BI where
  s : Shared
  H : Hp
  C : Addr
  cl : List (Str × Addr)
  fp : List Addr
abbrev bx (X : Cx) (scope : Scope) (b : BI) : Cx := X.blk b.s b.H scope (compEnvC scope b.cl b.C X.env) b.fp
def DTs (X : Cx) (W : WX) (ifs : List Expr) (m : M Bool) : Prop := ∃ t, PTs X ifs t ∧ ∀ B s σ H w Q, Sim (XC X) B s σ H w → Post (XC X) B W (fun _ a b => a = b) (m s) σ w Q → t σ H Q
theorem xc_blk {X : Cx} {scope : Scope} (hc : X.calm = true) (b : BI) : XC (bx X scope b) = XC X := by
  rw [xc_calm hc, xc_calm (X := bx X scope b) hc]
section
variable {X : Cx} {W : WX} {scope : Scope}
theorem dts_nil : DTs X W [] mYes := ⟨_, pts_nil, fun B s σ H w Q S p => post_ret p (Wd.le.refl w) S rfl⟩
theorem dts_one {c : Expr} {m : M Bool} (h : DT X W c m) : DTs X W [c] m := by
  obtain ⟨t, ht, k⟩ := h
  exact ⟨t, pts_one ht, k⟩
theorem uniG (hc : X.calm = true) {tg : Expr} {is : List Nat} {f : D → M Unit} (h : ∀ b, DG (bx X scope b) tg is f) : ∃ g, (∀ s H C cl fp, PG (X.blk s H scope (compEnvC scope cl C X.env) fp) tg g) ∧ SndG (XC X) is f g := by
  have h' : ∀ b, ∃ g, PG (bx X scope b) tg g ∧ SndG (XC X) is f g := fun b => by
    obtain ⟨g, p, k⟩ := h b
    rw [xc_blk hc b] at k
    exact ⟨g, p, k⟩
  exact ⟨fun v σ H Q => ∀ b, (h' b).choose v σ H Q, fun s H C cl fp => ⟨fun pins s' σ H' v u Q I r q => (h' ⟨s, H, C, cl, fp⟩).choose_spec.1.run pins s' σ H' v u Q I r (q _)⟩,
    fun B s σ H w d x Q S r p b => (h' b).choose_spec.2 B s σ H w d x Q S r p⟩
theorem uniT (hc : X.calm = true) {ifs : List Expr} {m : M Bool} (h : ∀ b, DTs (bx X scope b) WF ifs m) : ∃ t, (∀ s H C cl fp, PTs (X.blk s H scope (compEnvC scope cl C X.env) fp) ifs t) ∧ SndT (XC X) m t := by
  have h' : ∀ b, ∃ g, PTs (bx X scope b) ifs g ∧ SndT (XC X) m g := fun b => by
    obtain ⟨g, p, k⟩ := h b
    rw [xc_blk hc b] at k
    exact ⟨g, p, k⟩
  exact ⟨fun σ H Q => ∀ b, (h' b).choose σ H Q, fun s H C cl fp => ⟨fun pins s' σ H' Q I q => (h' ⟨s, H, C, cl, fp⟩).choose_spec.1.run pins s' σ H' Q I (q _)⟩,
    fun B s σ H w Q S p b => (h' b).choose_spec.2 B s σ H w Q S p⟩
theorem uniE (hc : X.calm = true) {e : Expr} {m : M D} (h : ∀ b, DE (bx X scope b) WF e m) : ∃ t, (∀ s H C cl fp, PE (X.blk s H scope (compEnvC scope cl C X.env) fp) e t) ∧ SndE (XC X) m t := by
  have h' : ∀ b, ∃ g, PE (bx X scope b) e g ∧ SndE (XC X) m g := fun b => by
    obtain ⟨g, p, k⟩ := h b
    rw [xc_blk hc b] at k
    exact ⟨g, p, k⟩
  exact ⟨fun σ H Q => ∀ b, (h' b).choose σ H Q, fun s H C cl fp => ⟨fun pins s' σ H' Q I q => (h' ⟨s, H, C, cl, fp⟩).choose_spec.1.run pins s' σ H' Q I (q _)⟩,
    fun B s σ H w Q S p b => (h' b).choose_spec.2 B s σ H w Q S p⟩
theorem uniI (hc : X.calm = true) {tg iter : Expr} {mi : M (List D)} (h : ∀ b, DI (bx X scope b) WF tg iter mi) : ∃ t, (∀ s H C cl fp, PI (X.blk s H scope (compEnvC scope cl C X.env) fp) tg iter t) ∧ SndI (XC X) mi t := by
  have h' : ∀ b, ∃ g, PI (bx X scope b) tg iter g ∧ SndI (XC X) mi g := fun b => by
    obtain ⟨g, p, k⟩ := h b
    rw [xc_blk hc b] at k
    exact ⟨g, p, k⟩
  exact ⟨fun σ H Q => ∀ b, (h' b).choose σ H Q, fun s H C cl fp => ⟨fun pins s' σ H' Q I q => (h' ⟨s, H, C, cl, fp⟩).choose_spec.1.run pins s' σ H' Q I (q _)⟩,
    fun B s σ H w Q S p b => (h' b).choose_spec.2 B s σ H w Q S p⟩
theorem posts_own {c : Ct} {B : Bs} {m : M (List D)} {s : S} {σ : L2.St} {w : Wd} {D : Ends} {i : Nat} (p : PostS c B W (mSetO i m s) w D) : PostF c B W (m s) σ w (fun x H1 => gName i x σ H1 D.nx) :=
  postsF (f := fun ds => fun s => .ok .nx ⟨s.env.set i (some (.own ds)), s.cells⟩) p fun d s1 x H1 w1 _ l1 S1 r1 p1 => by
    obtain ⟨w2, l2, S2⟩ := r1.own (i := i) S1
    exact p1 _ H1 w2 l2 S2
variable {elt tg iter tg1 iter1 tg2 iter2 : Expr} {ifs ifs1 ifs2 : List Expr} {own : List (Str × Nat)} {vs vs1 vs2 : List Nat} {pos spos : Pos} {is is1 is2 : List Nat} {mi mi1 mi2 : M (List D)} {f f1 f2 : D → M Unit} {m m1 m2 : M Bool} {me : M D} {i : Nat} {y : Str} {py : Pos}
theorem df_lc (hN : X.N.Nodup) (own : List (Str × Nat)) (ok : BlkOk X.N X.env.scope scope own) (hi : DI X W tg iter mi) (hg : ∀ b, DG (bx X scope b) tg is f) (ht : ∀ b, DTs (bx X scope b) WF ifs m) (he : ∀ b, DE (bx X scope b) WF elt me)
    (hvs : own.map (·.2) = vs := by rfl) (hv : ∀ i ∈ is, i ∈ vs := by decide) (hc : X.calm = true := by rfl) (hs : ∀ x, foldedSetIterable iter X.env x = pure x := by intro _; rfl) :
    DF X W (.ListComp elt [⟨tg, iter, ifs, 0⟩] scope pos) (mComp mi (lcGo f m (lcOne me) vs) vs) := by
  obtain ⟨wi, pi, ki⟩ := hi
  obtain ⟨g, pg, kg⟩ := uniG hc hg
  obtain ⟨tt, pt, kt⟩ := uniT hc ht
  obtain ⟨te, pe, ke⟩ := uniE hc he
  refine ⟨_, pe_lc hc hN pi ok pg pt pe hs, fun B s σ H w Q S p => ?_⟩
  rw [hvs]
  exact top_ok (body := leafB te) ki kg kt (fun B a => leaf_ok ke) hv S p
theorem ds_setLc (hN : X.N.Nodup) (own : List (Str × Nat)) (ok : BlkOk X.N X.env.scope scope own) (hi : DI X W tg iter mi) (hg : ∀ b, DG (bx X scope b) tg is f) (ht : ∀ b, DTs (bx X scope b) WF ifs m) (he : ∀ b, DE (bx X scope b) WF elt me)
    (hy : X.N[i]? = some y := by rfl) (hyl : X.env.scope.names.lookup y = some .local := by rfl) (hsw : swapsWith (.ListComp elt [⟨tg, iter, ifs, 0⟩] scope pos) (some (.Name y py)) spos.line X.env = pure true := by exact sw_true rfl rfl rfl rfl)
    (hvs : own.map (·.2) = vs := by rfl) (hv : ∀ i ∈ is, i ∈ vs := by decide) (hc : X.calm = true := by rfl) (hs : ∀ x, foldedSetIterable iter X.env x = pure x := by intro _; rfl) :
    DS X W (.Assign [.Name y py] (.ListComp elt [⟨tg, iter, ifs, 0⟩] scope pos) spos) (mSetO i (mComp mi (lcGo f m (lcOne me) vs) vs)) := by
  obtain ⟨wi, pi, ki⟩ := hi
  obtain ⟨g, pg, kg⟩ := uniG hc hg
  obtain ⟨tt, pt, kt⟩ := uniT hc ht
  obtain ⟨te, pe, ke⟩ := uniE hc he
  refine ds_of (ps_setLc hc hN hy hyl hsw pi ok pg pt pe hs) fun B s σ H w D S p => ?_
  rw [hvs]
  exact top_ok (body := leafB te) ki kg kt (fun B a => leaf_ok ke) hv S (posts_own (σ := σ) p)
theorem df_lc2 (hN : X.N.Nodup) (own : List (Str × Nat)) (ok : BlkOk X.N X.env.scope scope own) (hi : DI X W tg iter mi) (hg : ∀ b, DG (bx X scope b) tg is f) (ht : ∀ b, DTs (bx X scope b) WF ifs m)
    (hi1 : ∀ b, DI (bx X scope b) WF tg1 iter1 mi1) (hg1 : ∀ b, DG (bx X scope b) tg1 is1 f1) (ht1 : ∀ b, DTs (bx X scope b) WF ifs1 m1) (he : ∀ b, DE (bx X scope b) WF elt me)
    (hvs : own.map (·.2) = vs := by rfl) (hv : ∀ i ∈ is, i ∈ vs := by decide) (hv1 : ∀ i ∈ is1, i ∈ is1 := by exact fun _ h => h) (hv2 : ∀ i ∈ is1, i ∈ own.map (·.2) := by decide) (hc : X.calm = true := by rfl) (hs : ∀ x, foldedSetIterable iter X.env x = pure x := by intro _; rfl) (hs1 : ∀ env x, foldedSetIterable iter1 env x = pure x := by intro _ _; rfl) :
    DF X W (.ListComp elt [⟨tg, iter, ifs, 0⟩, ⟨tg1, iter1, ifs1, 0⟩] scope pos) (mComp mi (lcGo f m (lcIn mi1 (lcGo f1 m1 (lcOne me) is1) is1) vs) vs) := by
  obtain ⟨wi, pi, ki⟩ := hi
  obtain ⟨g, pg, kg⟩ := uniG hc hg
  obtain ⟨tt, pt, kt⟩ := uniT hc ht
  obtain ⟨wi1, pi1, ki1⟩ := uniI hc hi1
  obtain ⟨g1, pg1, kg1⟩ := uniG hc hg1
  obtain ⟨tt1, pt1, kt1⟩ := uniT hc ht1
  obtain ⟨te, pe, ke⟩ := uniE hc he
  refine ⟨_, pe_lc2 (vs1 := is1) hc hN pi ok hv2 pg pt pi1 pg1 pt1 pe hs hs1, fun B s σ H w Q S p => ?_⟩
  rw [hvs]
  exact top_ok (body := fun a => nestB wi1 g1 tt1 is1 (leafB te a)) ki kg kt (fun B a => nest_ok ki1 kg1 kt1 (leaf_ok ke) hv1) hv S p
theorem ds_setLc2 (hN : X.N.Nodup) (own : List (Str × Nat)) (ok : BlkOk X.N X.env.scope scope own) (hi : DI X W tg iter mi) (hg : ∀ b, DG (bx X scope b) tg is f) (ht : ∀ b, DTs (bx X scope b) WF ifs m)
    (hi1 : ∀ b, DI (bx X scope b) WF tg1 iter1 mi1) (hg1 : ∀ b, DG (bx X scope b) tg1 is1 f1) (ht1 : ∀ b, DTs (bx X scope b) WF ifs1 m1) (he : ∀ b, DE (bx X scope b) WF elt me)
    (hy : X.N[i]? = some y := by rfl) (hyl : X.env.scope.names.lookup y = some .local := by rfl) (hsw : swapsWith (.ListComp elt [⟨tg, iter, ifs, 0⟩, ⟨tg1, iter1, ifs1, 0⟩] scope pos) (some (.Name y py)) spos.line X.env = pure true := by exact sw_true rfl rfl rfl rfl)
    (hvs : own.map (·.2) = vs := by rfl) (hv : ∀ i ∈ is, i ∈ vs := by decide) (hv1 : ∀ i ∈ is1, i ∈ is1 := by exact fun _ h => h) (hv2 : ∀ i ∈ is1, i ∈ own.map (·.2) := by decide) (hc : X.calm = true := by rfl) (hs : ∀ x, foldedSetIterable iter X.env x = pure x := by intro _; rfl) (hs1 : ∀ env x, foldedSetIterable iter1 env x = pure x := by intro _ _; rfl) :
    DS X W (.Assign [.Name y py] (.ListComp elt [⟨tg, iter, ifs, 0⟩, ⟨tg1, iter1, ifs1, 0⟩] scope pos) spos) (mSetO i (mComp mi (lcGo f m (lcIn mi1 (lcGo f1 m1 (lcOne me) is1) is1) vs) vs)) := by
  obtain ⟨wi, pi, ki⟩ := hi
  obtain ⟨g, pg, kg⟩ := uniG hc hg
  obtain ⟨tt, pt, kt⟩ := uniT hc ht
  obtain ⟨wi1, pi1, ki1⟩ := uniI hc hi1
  obtain ⟨g1, pg1, kg1⟩ := uniG hc hg1
  obtain ⟨tt1, pt1, kt1⟩ := uniT hc ht1
  obtain ⟨te, pe, ke⟩ := uniE hc he
  refine ds_of (ps_setLc2 (vs1 := is1) hc hN hy hyl hsw pi ok hv2 pg pt pi1 pg1 pt1 pe hs hs1) fun B s σ H w D S p => ?_
  rw [hvs]
  exact top_ok (body := fun a => nestB wi1 g1 tt1 is1 (leafB te a)) ki kg kt (fun B a => nest_ok ki1 kg1 kt1 (leaf_ok ke) hv1) hv S (posts_own (σ := σ) p)
end
end DM
set_option Elab.async false
set_option linter.all false
set_option maxRecDepth 100000
set_option maxHeartbeats 400000
namespace DM
open PySem PySem.Spec PyProof.Rows L2
def turnN (e : Expr) (k : Nat) (t i i1 : Expr) (ifs : List Expr) (it acc : Value) (env : Env) : Sem Fin := do
  standAt i.pos
  match ← pyNext it with
  | none => pure (.done .next)
  | some v =>
    letOwnedTupleGo t it v
    assign t env v
    let mut ok := true
    for c in ifs do
      if ok then ok ← isTrue c env (eval c env)
    if ok then
      let x ← eval i1 env
      standAt i1.pos
      let x ← foldedSetIterable i1 env x
      let _ ← runOwn (.compStart e (k + 1) (← holding [x] (pyIter x)) acc env) env
    again (.compLoop e k it acc env)
def turnL (e : Expr) (k : Nat) (t i elt : Expr) (ifs : List Expr) (it acc : Value) (env : Env) : Sem Fin := do
  standAt i.pos
  match ← pyNext it with
  | none => pure (.done .next)
  | some v =>
    letOwnedTupleGo t it v
    assign t env v
    let mut ok := true
    for c in ifs do
      if ok then ok ← isTrue c env (eval c env)
    if ok then
      (do let _ ← call (.builtin "list.append") [acc, ← eval elt env])
    again (.compLoop e k it acc env)
section
variable {elt t0 i0 t1 i1 t2 i2 : Expr} {f0 f1 f2 : List Expr} {scope : Scope} {pos : Pos} {it acc : Value} {env : Env}
theorem turn3_0 : compTurn (.ListComp elt [⟨t0, i0, f0, 0⟩, ⟨t1, i1, f1, 0⟩, ⟨t2, i2, f2, 0⟩] scope pos) 0 it acc env = turnN (.ListComp elt [⟨t0, i0, f0, 0⟩, ⟨t1, i1, f1, 0⟩, ⟨t2, i2, f2, 0⟩] scope pos) 0 t0 i0 i1 f0 it acc env := by rfl
theorem turn3_1 : compTurn (.ListComp elt [⟨t0, i0, f0, 0⟩, ⟨t1, i1, f1, 0⟩, ⟨t2, i2, f2, 0⟩] scope pos) 1 it acc env = turnN (.ListComp elt [⟨t0, i0, f0, 0⟩, ⟨t1, i1, f1, 0⟩, ⟨t2, i2, f2, 0⟩] scope pos) 1 t1 i1 i2 f1 it acc env := by rfl
theorem turn3_2 : compTurn (.ListComp elt [⟨t0, i0, f0, 0⟩, ⟨t1, i1, f1, 0⟩, ⟨t2, i2, f2, 0⟩] scope pos) 2 it acc env = turnL (.ListComp elt [⟨t0, i0, f0, 0⟩, ⟨t1, i1, f1, 0⟩, ⟨t2, i2, f2, 0⟩] scope pos) 2 t2 i2 elt f2 it acc env := by rfl
def startN (e : Expr) (k : Nat) (i : Expr) (it acc : Value) (env : Env) : Sem Fin := do
  if (← ask).params.followText "comprehension-iter-twice" then return ← again (.compLoop e k it acc env)
  rule "comprehension.iter-twice"
  standAt i.pos
  again (.compLoop e k (← pyIter it) acc env)
theorem start3_1 : compStart (.ListComp elt [⟨t0, i0, f0, 0⟩, ⟨t1, i1, f1, 0⟩, ⟨t2, i2, f2, 0⟩] scope pos) 1 it acc env = startN (.ListComp elt [⟨t0, i0, f0, 0⟩, ⟨t1, i1, f1, 0⟩, ⟨t2, i2, f2, 0⟩] scope pos) 1 i1 it acc env := by rfl
theorem start3_2 : compStart (.ListComp elt [⟨t0, i0, f0, 0⟩, ⟨t1, i1, f1, 0⟩, ⟨t2, i2, f2, 0⟩] scope pos) 2 it acc env = startN (.ListComp elt [⟨t0, i0, f0, 0⟩, ⟨t1, i1, f1, 0⟩, ⟨t2, i2, f2, 0⟩] scope pos) 2 i2 it acc env := by rfl
end
abbrev Fa : Value → Shared → Prop := fun _ _ => False
def tests (ifs : List Expr) (env : Env) : Sem Bool := forIn ifs true fun c r => if r = true then do let ok ← isTrue c env (eval c env); pure (ForInStep.yield ok) else pure (ForInStep.yield r)
def TurnAsk (prog : Program) (w : World) (A : Around) (t : Expr) (ifs : List Expr) (it : Value) (env : Env) (aft : (Shared → Prop) → Shared → Prop) (stop : Shared → Prop) (next : Shared → Prop) (s : Shared) : Prop :=
  wpAny (model prog w) A (pyNext it) (fun r s1 => match r with
    | none => stop s1
    | some v => wpAny (model prog w) A (letOwnedTupleGo t it v) (fun _ s2 => wpAny (model prog w) A (assign t env v) (fun _ s3 => wpAny (model prog w) A (tests ifs env) (fun ok s4 => if ok = true then aft next s4 else next s4) Fa s3) Fa s2) Fa s1) Fa s
def aftN (prog : Program) (w : World) (A : Around) (e : Expr) (k : Nat) (i1 : Expr) (acc : Value) (env : Env) : (Shared → Prop) → Shared → Prop := fun R s =>
  wpAny (model prog w) A (eval i1 env) (fun x s1 => wpAny (model prog w) A (pyIter x) (fun it1 s2 => codeAny (model prog w) A (.compStart e (k + 1) it1 acc env) (fun r s' => match r with
    | .ok _ => R s'
    | .error _ => False) s2) Fa s1) Fa s
def aftL (prog : Program) (w : World) (A : Around) (elt : Expr) (acc : Value) (env : Env) : (Shared → Prop) → Shared → Prop := fun R s =>
  wpAny (model prog w) A (eval elt env) (fun x s1 => wpAny (model prog w) A (call (.builtin "list.append") [acc, x]) (fun _ s2 => R s2) Fa s1) Fa s
def LoopBy (prog : Program) (w : World) (A : Around) (e : Expr) (k : Nat) (t : Expr) (ifs : List Expr) (it acc : Value) (env : Env) (aft : (Shared → Prop) → Shared → Prop) : Prop :=
  ∀ (R : Result → Shared → Prop) (I : Nat → Shared → Prop), (∀ n s, I n s → TurnAsk prog w A t ifs it env aft (R (.ok .next)) (fun s' => ∃ m, m < n ∧ I m s') s) → ∀ n s, I n s → codeAny (model prog w) A (.compLoop e k it acc env) R s
section
variable {prog : Program} {w : World} {A : Around} {elt : Expr} {gs : List Comprehension} {scope : Scope} {pos : Pos} {k : Nat} {t i i1 : Expr} {ifs : List Expr} {it acc : Value} {env : Env}
theorem loopBy_N (ht : compTurn (.ListComp elt gs scope pos) k it acc env = turnN (.ListComp elt gs scope pos) k t i i1 ifs it acc env) (hs : ∀ x, foldedSetIterable i1 env x = pure x) :
    LoopBy prog w A (.ListComp elt gs scope pos) k t ifs it acc env (aftN prog w A (.ListComp elt gs scope pos) k i1 acc env) := by
  intro R I step n s hI
  refine codeAny_loop rfl I (fun n s hI => ?_) n hI
  show wpAny _ A ((compTurn (.ListComp elt gs scope pos) k it acc env).onRaise (fun y => do noteFrame y env; theTreesLotGoes y)) _ _ s
  refine wpAny_noted ?_
  rw [ht]
  unfold turnN
  refine wpAny_bind (wpAny_standAt (wpAny_bind (wpAny_mono (step n s hI) (fun r s1 h1 => ?_) fun _ _ x => x.elim)))
  cases r with
  | none => exact wpAny_pure h1
  | some v =>
    refine wpAny_bind (wpAny_mono h1 (fun _ s2 h2 => ?_) fun _ _ x => x.elim)
    refine wpAny_bind (wpAny_mono h2 (fun _ s3 h3 => wpAny_bind (wpAny_mono h3 (fun b s4 h4 => ?_) fun _ _ x => x.elim)) fun _ _ x => x.elim)
    cases b with
    | false => exact wpAny_pure ⟨rfl, h4⟩
    | true =>
      refine wpAny_bind (wpAny_mono h4 (fun x s5 h5 => ?_) fun _ _ x => x.elim)
      refine wpAny_bind (wpAny_standAt (wpAny_bind (wpAny_of_eq (hs x) (wpAny_bind (wpAny_holding (wpAny_mono h5 (fun it1 s6 h6 => ?_) fun _ _ x => x.elim))))))
      refine wpAny_bind (wpAny_runOwn ?_)
      rw [Around.mark_none]
      refine codeAny_mono h6 fun r s' hr => ?_
      cases r with
      | ok f =>
        first
          | exact wpAny_pure ⟨rfl, hr⟩
          | exact wpAny_bind (wpAny_pure (wpAny_pure ⟨rfl, hr⟩))
      | error e => exact hr.elim
theorem loopBy_L (ht : compTurn (.ListComp elt gs scope pos) k it acc env = turnL (.ListComp elt gs scope pos) k t i elt ifs it acc env) :
    LoopBy prog w A (.ListComp elt gs scope pos) k t ifs it acc env (aftL prog w A elt acc env) := by
  intro R I step n s hI
  refine codeAny_loop rfl I (fun n s hI => ?_) n hI
  show wpAny _ A ((compTurn (.ListComp elt gs scope pos) k it acc env).onRaise (fun y => do noteFrame y env; theTreesLotGoes y)) _ _ s
  refine wpAny_noted ?_
  rw [ht]
  unfold turnL
  refine wpAny_bind (wpAny_standAt (wpAny_bind (wpAny_mono (step n s hI) (fun r s1 h1 => ?_) fun _ _ x => x.elim)))
  cases r with
  | none => exact wpAny_pure h1
  | some v =>
    refine wpAny_bind (wpAny_mono h1 (fun _ s2 h2 => ?_) fun _ _ x => x.elim)
    refine wpAny_bind (wpAny_mono h2 (fun _ s3 h3 => wpAny_bind (wpAny_mono h3 (fun b s4 h4 => ?_) fun _ _ x => x.elim)) fun _ _ x => x.elim)
    cases b with
    | false => exact wpAny_pure ⟨rfl, h4⟩
    | true => exact wpAny_bind (wpAny_bind (wpAny_mono h4 (fun x s5 h5 => wpAny_bind (wpAny_mono h5 (fun _ s6 h6 => wpAny_pure (wpAny_pure ⟨rfl, h6⟩)) fun _ _ x => x.elim)) fun _ _ x => x.elim))
theorem startBy {R : Result → Shared → Prop} {s : Shared} (hst : compStart (.ListComp elt gs scope pos) k it acc env = startN (.ListComp elt gs scope pos) k i it acc env)
    (h0 : codeAny (model prog w) A (.compLoop (.ListComp elt gs scope pos) k it acc env) R s)
    (h : wpAny (model prog w) A (pyIter it) (fun it' s' => codeAny (model prog w) A (.compLoop (.ListComp elt gs scope pos) k it' acc env) R s') Fa s) :
    codeAny (model prog w) A (.compStart (.ListComp elt gs scope pos) k it acc env) R s := by
  refine codeAny_of_tree ?_
  show wpAny _ _ ((compStart (.ListComp elt gs scope pos) k it acc env).onRaise (fun y => do noteFrame y env; standAt theWindowsPlace)) _ _ s
  refine wpAny_notedAt ?_
  rw [hst]
  unfold startN
  refine wpAny_bind (wpAny_askSetting (wpAny_ite ?_))
  split
  · first
      | exact wpAny_bind (wpAny_pure (wpAny_pure (And.intro rfl h0)))
      | exact wpAny_pure (And.intro rfl h0)
  · refine wpAny_bind (wpAny_rule ?_)
    exact wpAny_bind (wpAny_standAt (wpAny_bind (wpAny_mono h (fun it' s' h' => wpAny_pure (And.intro rfl h')) fun _ _ x => x.elim)))
end
def AftOk (X : Cx) (aft : (Shared → Prop) → Shared → Prop) (vs : List Nat) (body : CBody) : Prop := ∀ pins s σ H K R, Inv X pins σ H s → body σ H K → (∀ s' H', Inv X pins (wipe σ vs) H' s' → K H' → R s') → aft R s
theorem wipe_sub {σ : L2.St} {vs vs' : List Nat} (h : ∀ i ∈ vs', i ∈ vs) {i : Nat} {v : V} (e : (wipe σ vs)[i]? = some (some v)) : (wipe σ vs')[i]? = some (some v) := by
  obtain ⟨h1, h2⟩ := wipe_some e
  rw [wipe_get, if_neg fun m => h2 (h i m)]
  exact h1
section
variable {X : Cx} {e : Expr} {k : Nat} {tg : Expr} {ifs : List Expr} {acc : Value} {aft : (Shared → Prop) → Shared → Prop} {vs vs' : List Nat} {body : CBody} {J : It} {it : Addr} {fp : List Addr} {tn : Nat → Heap → Prop} {g : TG} {tt : TT}
theorem clause_ok (hc : X.calm = true) (hx : X.xe = Fa) (L : LoopBy X.prog X.w X.A e k tg ifs (.ref it) acc X.env aft) (T : Turn X.prog X.w X.K tg J fp it tn) (pg : PG X tg g) (pt : PTs X ifs tt) (ha : AftOk X aft vs' body) (hv : ∀ i ∈ vs', i ∈ vs)
    {pins : List (Addr × Obj)} {σ : L2.St} {H : Hp} {s : Shared} {K : Hp → Prop} {R : Result → Shared → Prop} (I : Inv X pins (wipe σ vs) H s) (st : tn 0 s.heap) (hf : ∀ b ∈ fp, FpOk X pins H b) (lv : LV J K σ g tt vs body H)
    (hR : ∀ s' H', Inv X pins (wipe σ vs) H' s' → K H' → R (.ok .next) s') : codeAny (model X.prog X.w) X.A (.compLoop e k (.ref it) acc X.env) R s := by
  obtain ⟨W, ⟨m0, w0⟩, turn⟩ := lv
  have stat : ∀ {H' : Hp}, (∀ b ∈ fp, H' b = none) → ∀ b ∈ fp, FpOk X pins H' b := fun hn b hb => ⟨hn b hb, (hf b hb).2⟩
  refine L R (fun n s' => ∃ i H', Inv X pins (wipe σ vs) H' s' ∧ tn i s'.heap ∧ (∀ b ∈ fp, H' b = none) ∧ W i n H') ?_ m0 s ⟨0, H, I, st, fun b hb => (hf b hb).1, w0⟩
  rintro n s1 ⟨i, H1, I1, st1, n1, w1⟩
  rcases turn i n H1 w1 with ⟨hstop, hk⟩ | ⟨hgo, Nx, hNx, step⟩
  · refine wpAny_mono (T.done X rfl rfl rfl hc i pins s1 _ H1 Fa I1 (stat n1) st1 hstop) (fun r s2 h2 => ?_) fun _ _ z => z
    obtain ⟨rfl, I2⟩ := h2
    exact hR s2 H1 I2 hk
  · refine wpAny_mono (T.item X rfl rfl rfl hc i pins s1 _ H1 Fa I1 (stat n1) st1 hgo) (fun r s2 h2 => ?_) fun _ _ z => z
    obtain ⟨u, rfl, h2⟩ := h2
    refine wpAny_mono h2 (fun _ s3 h3 => ?_) fun _ _ z => z
    obtain ⟨x, H3, I3, r3, y3, st3, n3⟩ := h3
    have I3' := I3.pinned (stat n3) (T.obj _ _ st3)
    have pgr := pg.run _ s3 _ H3 x u _ I3' r3 (step x H3 y3)
    rw [hx] at pgr
    refine wpAny_mono pgr (fun _ s4 h4 => ?_) fun _ _ z => z
    obtain ⟨σ4, H4, I4, hw4, q4⟩ := h4
    have ptr := pt.run _ s4 σ4 H4 _ I4 q4
    rw [hx] at ptr
    refine wpAny_mono ptr (fun b s5 h5 => ?_) fun _ _ z => z
    obtain ⟨H5, I5, q5⟩ := h5
    have last : ∀ s' H', Inv X (pins ++ pinsAt fp s3.heap) (wipe σ4 vs) H' s' → Nx H' → ∃ m, m < n ∧ ∃ i H', Inv X pins (wipe σ vs) H' s' ∧ tn i s'.heap ∧ (∀ b ∈ fp, H' b = none) ∧ W i m H' := fun s' H' I' nx => by
      obtain ⟨m', hm, w'⟩ := hNx H' nx
      have kept : ∀ b ∈ fp, ∀ o, s3.heap.get? b = some o → s'.heap.get? b = some o ∧ H' b = none := fun b hb o eo =>
        have z := I'.pin (b, o) (List.mem_append_right _ (List.mem_append_right _ (mem_pinsAt hb eo)))
        ⟨z.1, z.2.1⟩
      rw [hw4] at I'
      refine ⟨m', hm, i + 1, H', I'.unpinned, T.keep _ _ _ st3 fun b hb o eo => (kept b hb o eo).1, fun b hb => ?_, w'⟩
      obtain ⟨o, eo, _⟩ := T.obj _ _ st3 b hb
      exact (kept b hb o eo).2
    cases b with
    | false =>
      rw [if_neg Bool.false_ne_true] at q5 ⊢
      exact last s5 H5 (I5.weak (wipe_length _ _) fun j v ev => (wipe_some ev).1) q5
    | true =>
      rw [if_pos rfl] at q5 ⊢
      exact ha _ s5 σ4 H5 Nx _ I5 q5 fun s' H' I' nx => last s' H' (I'.weak (by rw [wipe_length, wipe_length]) fun j v ev => wipe_sub hv ev) nx
theorem aft_leaf {elt : Expr} {a : Addr} {te : TE} (hx : X.xe = Fa) (pe : PE X elt te) : AftOk X (aftL X.prog X.w X.A elt (.ref a) X.env) [] (leafB te a) := by
  intro pins s σ H K R I b hR
  have per := pe.run pins s σ H _ I b
  rw [hx] at per
  refine wpAny_mono per (fun z s1 h1 => ?_) fun _ _ z => z
  obtain ⟨y, H1, I1, r1, xs, hD, hz, hk⟩ := h1
  exact app_ok I1 hD hz r1 fun s2 I2 => hR s2 _ I2 hk
theorem aft_nest {elt i1 tg1 : Expr} {gs : List Comprehension} {scope : Scope} {pos : Pos} {ifs1 : List Expr} {wi1 : TI} {g1 : TG} {tt1 : TT} {aft1 : Addr → (Shared → Prop) → Shared → Prop} {vs1 vs2 : List Nat} {body1 : CBody} (hc : X.calm = true) (hx : X.xe = Fa) (pi1 : PI X tg1 i1 wi1) (pg1 : PG X tg1 g1) (pt1 : PTs X ifs1 tt1)
    (hst : ∀ it, compStart (.ListComp elt gs scope pos) (k + 1) it acc X.env = startN (.ListComp elt gs scope pos) (k + 1) i1 it acc X.env) (L : ∀ it, LoopBy X.prog X.w X.A (.ListComp elt gs scope pos) (k + 1) tg1 ifs1 (.ref it) acc X.env (aft1 it)) (ha : ∀ it, AftOk X (aft1 it) vs2 body1) (hv : ∀ i ∈ vs2, i ∈ vs1) :
    AftOk X (aftN X.prog X.w X.A (.ListComp elt gs scope pos) k i1 acc X.env) vs1 (nestB wi1 g1 tt1 vs1 body1) := by
  intro pins s σ H K R I b hR
  have pir := pi1.run pins s σ H _ I b
  rw [hx] at pir
  refine wpAny_mono pir (fun x s1 h1 => ?_) fun _ _ z => z
  refine wpAny_mono h1 (fun itv s2 h2 => ?_) fun _ _ z => z
  obtain ⟨it, fp, tn, J, H2, rfl, I2, T, st2, f2, lv⟩ := h2
  have lp : codeAny (model X.prog X.w) X.A (.compLoop (.ListComp elt gs scope pos) (k + 1) (.ref it) acc X.env) (fun r s' => match r with
    | .ok _ => R s'
    | .error _ => False) s2 := clause_ok hc hx (L it) T pg1 pt1 (ha it) hv (I2.weak (wipe_length _ _) fun j v ev => (wipe_some ev).1) st2 f2 lv fun s' H' I' hk => hR s' H' I' hk
  exact startBy (hst _) lp (T.self X.A 0 _ _ _ st2 lp)
end
section
variable {X : Cx} {elt tg iter : Expr} {ifs : List Expr} {rest : List Comprehension} {scope : Scope} {own : List (Str × Nat)} {vs' : List Nat} {pos pos' : Pos} {wi : TI} {g : TG} {tt : TT} {body : Addr → CBody} {use : Option (Value → Sem Unit)} {Qf : Value → Shared → Prop}
theorem lcn_core {pins : List (Addr × Obj)} {s : Shared} {σ : L2.St} {H : Hp} {Q : VK} (hc : X.calm = true) (hN : X.N.Nodup) (I : Inv X pins σ H s) (hi : PI X tg iter wi) (ok : BlkOk X.N X.env.scope scope own)
    (hb : ∀ b : BI, PG (bx X scope b) tg g ∧ PTs (bx X scope b) ifs tt ∧ ∀ it D, ∃ aft, LoopBy X.prog X.w X.A (.ListComp elt (⟨tg, iter, ifs, 0⟩ :: rest) scope pos) 0 tg ifs (.ref it) (.ref D) (bx X scope b).env aft ∧ AftOk (bx X scope b) aft vs' (body D))
    (hv : ∀ i ∈ vs', i ∈ own.map (·.2)) (hs : ∀ x, foldedSetIterable iter X.env x = pure x)
    (h : wi σ H fun J H1 => ∀ D, H1 D = none → LV J (Q (.ref D)) σ g tt (own.map (·.2)) (body D) (upd H1 D (.lst [])))
    (hRR : ∀ D C s' m H', Inv X pins σ H' s' → Q (.ref D) H' → s'.heap.Ns C m → FpOk X pins H' C → compPost (model X.prog X.w) X.A X.xe use Qf (.ref D) C (.ok .next) s') :
    wpAny (model X.prog X.w) X.A (comprehension (.ListComp elt (⟨tg, iter, ifs, 0⟩ :: rest) scope pos) scope X.env pos' (newList []) false (eval iter X.env) use) Qf X.xe s := by
  have caught : ∀ y ∈ scope.names, y.2 = .free → ∃ c, X.env.cells.lookup y.1 = some c := fun y hy e => I.ok.has _ ((ok.free y hy e).imp id id)
  refine wpAny_comprehension_free (use := use) rfl hs (closure_ok caught) ok.kind (fun y hy e => (ok.uniq y hy).trans (by rw [e])) ?_
  refine thn (hi.run pins s σ H _ I h) fun xv s1 h1 => thn h1 fun itv s2 h2 => ?_
  obtain ⟨it, fp, tn, J, H2, rfl, I2, T, st2, f2, q⟩ := h2
  refine wpAny_newObj_type (newEnv_comp ?_) (by show 0 ≤ sizeLine; decide)
  obtain ⟨D, hD⟩ : ∃ D, D = s2.heap.objs.size := ⟨_, rfl⟩
  rw [← hD]
  have hDn : H2 D = none := I2.hok.fresh (Nat.le_of_eq hD.symm)
  have lv := q D hDn
  obtain ⟨s3, hs3⟩ : ∃ s3 : Shared, s3 = { s2 with heap := s2.heap.push { cls := .type "list", data := .seq ([] : List Value).toArray } } := ⟨_, rfl⟩
  rw [← hs3]
  have h3 : s3.heap = s2.heap.push { cls := .type "list", data := .seq ([] : List Value).toArray } := by rw [hs3]
  have I3 : Inv X pins σ (upd H2 D (.lst [])) s3 := by
    rw [hs3]
    refine I2.laid (t' := s2.toks) (fun b o eo => Heap.get?_push_of_some _ eo) (Nat.le_of_eq hD.symm) ⟨Nat.zero_le _, [], 0, .nil, ?_⟩
    rw [hD]
    exact Heap.get?_push_size _ rfl
  have low : ∀ b ∈ fp, b < s2.heap.objs.size := fun b hb' => (T.obj _ _ st2 b hb').elim fun o z => Heap.lt_size z.1
  have f3 : ∀ b ∈ fp, FpOk X pins (upd H2 D (.lst [])) b ∧ b < s3.heap.objs.size := fun b hb' => by
    have hlt := low b hb'
    refine ⟨⟨?_, (f2 b hb').2⟩, by rw [h3, Heap.size_push]; exact Nat.lt_succ_of_lt hlt⟩
    rw [upd_ne (by rw [hD]; exact Nat.ne_of_lt hlt)]
    exact (f2 b hb').1
  have st3 : tn 0 s3.heap := T.keep _ _ _ st2 fun b _ o eo => by rw [h3]; exact Heap.get?_push_of_some _ eo
  obtain ⟨H3, hH3⟩ : ∃ H3, H3 = upd H2 D (.lst []) := ⟨_, rfl⟩
  rw [← hH3] at I3 f3 lv
  obtain ⟨cl, hcl⟩ : ∃ cl, cl = cellsFrom (s3.heap.objs.size + 1) scope.names (cloFrom X.env.cells scope.names []) := ⟨_, rfl⟩
  have I4 := block_start I3 ok hN f3
  rw [← hcl] at I4
  obtain ⟨pg, pt, hlp⟩ := hb ⟨s3, H3, s3.heap.objs.size, cl, fp⟩
  obtain ⟨aft, hl, hao⟩ := hlp it D
  show codeAny _ _ (.compStart (.ListComp elt (⟨tg, iter, ifs, 0⟩ :: rest) scope pos) 0 (.ref it) (.ref D) (compEnvC scope (cellsFrom (s3.heap.objs.size + 1) scope.names (cloFrom X.env.cells scope.names [])) s3.heap.objs.size X.env)) (compPost (model X.prog X.w) X.A X.xe use Qf (.ref D) s3.heap.objs.size) { s3 with heap := pushCells (s3.heap.push { cls := .type "dict", data := .dict #[] }) scope.names }
  rw [← hcl]
  obtain ⟨ce, hce⟩ : ∃ ce, ce = compEnvC scope cl s3.heap.objs.size X.env := ⟨_, rfl⟩
  have cL : ce.locals = s3.heap.objs.size := by rw [hce]; rfl
  obtain ⟨s4, hs4⟩ : ∃ s4 : Shared, s4 = { s3 with heap := pushCells (s3.heap.push { cls := .type "dict", data := .dict #[] }) scope.names } := ⟨_, rfl⟩
  rw [← hs4] at I4 ⊢
  have st4 : tn 0 s4.heap := T.keep _ _ _ st3 fun b _ o eo => by rw [hs4]; exact pushCells_keeps _ _ _ _ (Heap.get?_push_of_some _ eo)
  have f4 : ∀ b ∈ fp, FpOk (bx X scope ⟨s3, H3, s3.heap.objs.size, cl, fp⟩) [] H3 b := fun b hb' =>
    ⟨(f3 b hb').1.1, (I4.ok.exf b hb').1, I4.ok.exfs b hb', .inl hb', fun x c eo => (I4.ok.exf b hb').2 x c eo, fun p hp => absurd (show p ∈ ([] : List (Addr × Obj)) ++ [] from hp) (by simp)⟩
  have lp : codeAny (model X.prog X.w) X.A (.compLoop (.ListComp elt (⟨tg, iter, ifs, 0⟩ :: rest) scope pos) 0 (.ref it) (.ref D) (compEnvC scope cl s3.heap.objs.size X.env)) (compPost (model X.prog X.w) X.A X.xe use Qf (.ref D) s3.heap.objs.size) s4 := by
    refine clause_ok (X := bx X scope ⟨s3, H3, s3.heap.objs.size, cl, fp⟩) hc rfl hl T pg pt hao hv I4 st4 f4 lv fun s6 H5 I6 qq => ?_
    have I7 : Inv X pins σ H5 s6 := I3.call' (ch := fp) I6.os I6.base I6.hok I6.bare fun b hb' => ⟨(f3 b hb').1.2.2.2.1, (f3 b hb').1.2.1, (f3 b hb').1.2.2.2.2.1, (f3 b hb').1.2.2.2.2.2⟩
    have nC : H5 s3.heap.objs.size = none := I6.free
    obtain ⟨m, hn, _⟩ := I6.loc
    exact hRR D s3.heap.objs.size s6 m H5 I7 qq hn (I3.fpOk (Nat.le_refl _) nC)
  exact codeAny_compStart_list lp (T.self X.A 0 _ _ _ st4 lp)
end
end DM
set_option Elab.async false
set_option linter.all false
set_option maxRecDepth 100000
set_option maxHeartbeats 400000
namespace DM
open PySem PySem.Spec PyProof.Rows L2
section
variable {X : Cx} {W : WX} {scope : Scope} {elt tg iter tg1 iter1 tg2 iter2 : Expr} {ifs ifs1 ifs2 : List Expr} {own : List (Str × Nat)} {vs : List Nat} {pos : Pos} {is is1 is2 : List Nat} {mi mi1 mi2 : M (List D)} {f f1 f2 : D → M Unit} {m m1 m2 : M Bool} {me : M D}
theorem df_lc3 (hN : X.N.Nodup) (own : List (Str × Nat)) (ok : BlkOk X.N X.env.scope scope own) (hi : DI X W tg iter mi) (hg : ∀ b, DG (bx X scope b) tg is f) (ht : ∀ b, DTs (bx X scope b) WF ifs m)
    (hi1 : ∀ b, DI (bx X scope b) WF tg1 iter1 mi1) (hg1 : ∀ b, DG (bx X scope b) tg1 is1 f1) (ht1 : ∀ b, DTs (bx X scope b) WF ifs1 m1)
    (hi2 : ∀ b, DI (bx X scope b) WF tg2 iter2 mi2) (hg2 : ∀ b, DG (bx X scope b) tg2 is2 f2) (ht2 : ∀ b, DTs (bx X scope b) WF ifs2 m2) (he : ∀ b, DE (bx X scope b) WF elt me)
    (hvs : own.map (·.2) = vs := by rfl) (hv : ∀ i ∈ is, i ∈ vs := by decide) (hv1 : ∀ i ∈ is1 ++ is2, i ∈ own.map (·.2) := by decide) (hc : X.calm = true := by rfl) (hs : ∀ x, foldedSetIterable iter X.env x = pure x := by intro _; rfl)
    (hs1 : ∀ env x, foldedSetIterable iter1 env x = pure x := by intro _ _; rfl) (hs2 : ∀ env x, foldedSetIterable iter2 env x = pure x := by intro _ _; rfl) :
    DF X W (.ListComp elt [⟨tg, iter, ifs, 0⟩, ⟨tg1, iter1, ifs1, 0⟩, ⟨tg2, iter2, ifs2, 0⟩] scope pos) (mComp mi (lcGo f m (lcIn mi1 (lcGo f1 m1 (lcIn mi2 (lcGo f2 m2 (lcOne me) is2) is2) (is1 ++ is2)) (is1 ++ is2)) vs) vs) := by
  obtain ⟨wi, pi, ki⟩ := hi
  obtain ⟨g, pg, kg⟩ := uniG hc hg
  obtain ⟨tt, pt, kt⟩ := uniT hc ht
  obtain ⟨wi1, pi1, ki1⟩ := uniI hc hi1
  obtain ⟨g1, pg1, kg1⟩ := uniG hc hg1
  obtain ⟨tt1, pt1, kt1⟩ := uniT hc ht1
  obtain ⟨wi2, pi2, ki2⟩ := uniI hc hi2
  obtain ⟨g2, pg2, kg2⟩ := uniG hc hg2
  obtain ⟨tt2, pt2, kt2⟩ := uniT hc ht2
  obtain ⟨te, pe, ke⟩ := uniE hc he
  have hv' : ∀ i ∈ is1, i ∈ is1 ++ is2 := fun i h => List.mem_append_left _ h
  have hv2 : ∀ i ∈ is2, i ∈ is1 ++ is2 := fun i h => List.mem_append_right _ h
  refine ⟨fun σ H Q => wi σ H fun J H1 => ∀ D, H1 D = none → LV J (Q (.ref D)) σ g tt (own.map (·.2)) (nestB wi1 g1 tt1 (is1 ++ is2) (nestB wi2 g2 tt2 is2 (leafB te D))) (upd H1 D (.lst [])), ⟨fun pins s σ H Q I h => ?_⟩, fun B s σ H w Q S p => ?_⟩
  · rw [eval_ListComp]
    refine lcn_core (body := fun D => nestB wi1 g1 tt1 (is1 ++ is2) (nestB wi2 g2 tt2 is2 (leafB te D))) (vs' := is1 ++ is2) hc hN I pi ok (fun b => ⟨pg b.s b.H b.C b.cl b.fp, pt b.s b.H b.C b.cl b.fp, fun it D => ⟨_, loopBy_N turn3_0 (hs1 _), ?_⟩⟩) hv1 hs h fun D C s' m H' I' q hn fo => ⟨m, hn, fun h'' sb => ?_⟩
    · refine aft_nest (X := bx X scope b) (k := 0) (aft1 := fun it => aftN X.prog X.w X.A _ 1 iter2 (.ref D) (bx X scope b).env) (vs2 := is2) hc rfl (pi1 b.s b.H b.C b.cl b.fp) (pg1 b.s b.H b.C b.cl b.fp) (pt1 b.s b.H b.C b.cl b.fp) (fun it => start3_1) (fun it => loopBy_N turn3_1 (hs2 _)) (fun it => ?_) hv2
      exact aft_nest (X := bx X scope b) (k := 1) (aft1 := fun it => aftL X.prog X.w X.A elt (.ref D) (bx X scope b).env) (vs2 := []) hc rfl (pi2 b.s b.H b.C b.cl b.fp) (pg2 b.s b.H b.C b.cl b.fp) (pt2 b.s b.H b.C b.cl b.fp) (fun it => start3_2) (fun it => loopBy_L turn3_2) (fun it => aft_leaf rfl (pe b.s b.H b.C b.cl b.fp)) (fun _ z => nomatch z)
    · obtain ⟨f0, f1, f2, f3, f4, f5⟩ := fo
      exact ⟨.ref D, H', I'.turned (t' := s'.toks) (fun b o hb eo => (sb.2 b hb).trans eo) f0 f1 f3 f4 f5, rfl, q⟩
  · rw [hvs]
    exact top_ok (body := fun a => nestB wi1 g1 tt1 (is1 ++ is2) (nestB wi2 g2 tt2 is2 (leafB te a))) ki kg kt (fun B a => nest_ok ki1 kg1 kt1 (nest_ok ki2 kg2 kt2 (leaf_ok ke) fun _ h => h) hv') hv S p
end
end DM
set_option Elab.async false
set_option linter.all false
set_option maxRecDepth 100000
set_option maxHeartbeats 1000000
namespace DM
open PySem PySem.Spec PyProof.Rows L2
def PostE (c : Ct) (B : Bs) (W : WX) (r : Res Exc) (σ : L2.St) (w : Wd) (Q : XK) : Prop :=
  match r with
  | .ok e s => ∀ cls d H' w', w.le w' → Sim c B s σ H' w' → ExcOk c H' w' e cls d → Q cls d H'
  | .exc e s => PostX c B W e s w
  | .bad => False
theorem PostE.up {c : Ct} {B : Bs} {W : WX} {r : Res Exc} {σ : L2.St} {w w' : Wd} {Q : XK} (h : PostE c B W r σ w Q) (l : w.le w') : PostE c B W r σ w' Q := by
  cases r with
  | ok e s => exact fun cls d H' w2 l2 S q => h cls d H' w2 (l.trans l2) S q
  | exc e s => exact PostX.up h l
  | bad => exact h
theorem poste_bnd {c : Ct} {B : Bs} {W : WX} {α β : Type} {R : Wd → α → β → Prop} {w : Wd} {σ : L2.St} {m : M α} {f : α → M Exc} {s : S} {Q : XK} {Q1 : β → Hp → Prop} (h : PostE c B W (bnd m f s) σ w Q)
    (k : ∀ a s1 x H1 w1, m s = .ok a s1 → w.le w1 → Sim c B s1 σ H1 w1 → R w1 a x → PostE c B W (f a s1) σ w1 Q → Q1 x H1) : Post c B W R (m s) σ w Q1 := by
  unfold bnd at h
  cases e : m s with
  | ok a s1 =>
    rw [e] at h
    exact fun x H1 w1 l S1 r => k a s1 x H1 w1 e l S1 r (PostE.up h l)
  | exc ex s1 => rw [e] at h; exact h
  | bad => rw [e] at h; exact h
def DX (X : Cx) (W : WX) (e : Expr) (m : M Exc) : Prop := ∃ t, PMk X e t ∧ ∀ B s σ H w Q, Sim (XC X) B s σ H w → PostE (XC X) B W (m s) σ w Q → t σ H Q
def mRaise (m : M Exc) : MS := fun s => match m s with
  | .ok e s' => .exc e s'
  | .exc e s' => .exc e s'
  | .bad => .bad
section
variable {X : Cx} {W : WX}
theorem ds_raise {e : Expr} {m : M Exc} {pos : Pos} (h : DX X W e m) (tk : Takes X W) (hc : X.calm = true := by rfl) : DS X W (.Raise (some e) none pos) (mRaise m) := by
  obtain ⟨t, ht, k⟩ := h
  refine ds_of (ps_raise hc tk ht) fun B s σ H w D S p => k B s σ H w _ S ?_
  unfold mRaise at p
  cases q : m s with
  | ok e s1 => rw [q] at p; exact fun cls d H' w' l S' r => p cls d σ H' w' l S' r
  | exc e s1 => rw [q] at p; exact p
  | bad => rw [q] at p; exact p
theorem dx_own {C : Addr} {bmB : List Value} {B newId initId : String} {x m : Str} {j : Nat} {p p2 pos : Pos} (F : ExcBaseFacts B newId initId bmB) (q : PySem.W.excIn X.K C bmB newId = true) (gC : X.mg x = some (.ref C)) (kC : PySem.W.keepIn X.K (.ref C) = true) (r : Raises X (.ref C)) (hg : Gl X x := by rfl)
    (hdb : (x == ("__debug__" : Str)) = false := by decide) : DX X W (.Call (.Name x p) [.Constant (.str m) j p2] [] pos) (ret ⟨x, []⟩) :=
  ⟨_, pmk_own F q gC kC r hg hdb, fun B s σ H w Q S p => p (.ref C) none H w (Wd.le.refl w) S ⟨C, gC, rfl, .inl ⟨rfl, rfl⟩⟩⟩
def spI1 (f : Str) (C : Addr) : Sp := fun vs H Q E => ∃ a n, vs = [.ref a, .int n] ∧ n.natAbs.log2 < 1920 ∧ H a = some (exo a C none) ∧ ∀ dx, H dx = none → dx ≠ a → Q .non (upd (upd H dx (exd dx [(f, .int n)])) a (exo a C (some dx)))
def mkI1 (x f : Str) : D → M Exc
  | .int n => if Nat.blt n.natAbs.log2 1920 then ret ⟨x, [(f, .int n)]⟩ else bad
  | _ => bad
theorem dx_init1 {x f : Str} {C fI : Addr} {k : Nat} {fd : FuncData} {ps : List Str} {e : Expr} {m : M D} {p pos : Pos} (T : OexC X.K C) (iC : PySem.W.findIn X.K (.ref C) "__init__" = some (some (.ref fI))) (tI : PySem.W.typeIn X.K (.ref fI) = some (.type "function"))
    (F1 : FnOk X.prog X.w X.K X.mg X.base (L2.CX X.prog X.w) k fI fd ps (spI1 f C)) (hr : Room (k + 1) X.A) (hb : Binds X.K fd ps []) (hx : Passes (L2.CX X.prog X.w) X (fun _ _ _ => False)) (hm : X.mg x = some (.ref C)) (h : DE X W e m)
    (hg : Gl X x := by rfl) (hdb : (x == ("__debug__" : Str)) = false := by decide) (he : starEach [e] X.env = (false, eval e X.env) :: starEach [] X.env := by rfl) (hpl : (backTo pos (starEach [] X.env)).any (·.1) = false := by rfl) :
    DX X W (.Call (.Name x p) [e] [] pos) (bnd m (mkI1 x f)) := by
  obtain ⟨t, ht, kt⟩ := h
  refine ⟨_, pmk_oex (dvs := []) T iC tI F1 hr hb .nil hx hg hm (pa_cons ht pa_nil he) hdb he hpl, fun B s σ H w Q S p => kt B s σ H w _ S (poste_bnd p fun d s1 y H1 w1 _ l1 S1 r1 p1 => ?_)⟩
  cases d with
  | int n =>
    have p2 : PostE (XC X) B W ((if Nat.blt n.natAbs.log2 1920 then ret ⟨x, [(f, D.int n)]⟩ else bad : M Exc) s1) σ w1 Q := p1
    split at p2
    · rename_i hz
      have r2 : y = V.int n := r1
      refine ⟨by show 1 ≤ 1000; decide, fun a ha => ⟨a, n, by rw [r2] <;> rfl, Nat.le_of_ble_eq_true hz, upd_same, fun dx hdx hne => ⟨rfl, dx, [(f, .int n)], upd_same, by rw [upd_ne hne, upd_same], ?_, ?_⟩⟩⟩
      · rw [upd_ne hne] at hdx; exact hdx
      · have hd1 : H1 dx = none := by rw [upd_ne hne] at hdx; exact hdx
        have eq : upd (del (upd (upd (upd H1 a (exo a C none)) dx (exd dx [(f, .int n)])) a (exo a C (some dx))) a) dx (.xd [(f, .int n)]) = upd H1 dx (.xd [(f, .int n)]) := by
          funext b
          by_cases hb : b = dx
          · subst hb; rw [upd_same, upd_same]
          · rw [upd_ne hb, upd_ne hb]
            by_cases hba : b = a
            · subst hba; rw [del_same, ha]
            · rw [del_ne hba, upd_ne hba, upd_ne hb, upd_ne hba]
        rw [eq]
        have F0 := S1.free_F hd1
        exact p2 _ _ _ _ (le_newF F0) (S1.newF hd1) ⟨C, hm, rfl, .inr ⟨dx, _, rfl, upd_same, _, [], rfl, rfl, rfl⟩⟩
    · exact p2.elim
  | _ => exact p1.elim
end
abbrev Hdl := Value × Option Nat × (Addr → Value → Option Addr → TS)
def endAt (i : Nat) (D : Ends) : Ends := { nx := fun σ H => D.nx (σ.set i none) H, rt := D.rt, bk := fun σ H => D.bk (σ.set i none) H, ct := fun σ H => D.ct (σ.set i none) H }
def runH (o : Option Nat) (ts : Addr → Value → Option Addr → TS) (a : Addr) (cls : Value) (d : Option Addr) (D : Ends) (σ : L2.St) (H : Hp) : Prop := match o with
  | none => ts a cls d D σ H
  | some i => ts a cls d (endAt i D) (σ.set i (some (.ref a))) H
def wMix (K : PySem.W.Frag) (Wout : WX) (D : Ends) : List Hdl → WX
  | [] => Wout
  | h :: r => fun cls d σ H => ∃ b, PySem.W.exmOne K cls h.1 = some b ∧ (b = true → ∀ a, H a = none → runH h.2.1 h.2.2 a cls d D σ H) ∧ (b = false → wMix K Wout D r cls d σ H)
inductive HdMix (X : Cx) : List ExceptHandler → List Hdl → Prop
  | nil : HdMix X [] []
  | plain {x : Str} {c : Value} {ts : Addr → Value → Option Addr → TS} {st : Stmt} {sts : List Stmt} {p1 p2 : Pos} {hs : List ExceptHandler} {l : List Hdl} (nm : Names X x c)
      (su : ∀ (a : Addr) (oe : Obj) (cls : Value) (d : Option Addr) (pn : List (Addr × Obj)), Zc cls d oe → (∃ vs, oe.data = .fields vs) → PSs (X.suite a ((a, oe) :: pn)) (st :: sts) (ts a cls d)) (r : HdMix X hs l) :
      HdMix X (.ExceptHandler (some (.Name x p1)) none (st :: sts) p2 :: hs) ((c, none, ts) :: l)
  | named {x n : Str} {c : Value} {i : Nat} {ts : Addr → Value → Option Addr → TS} {st : Stmt} {sts : List Stmt} {p1 p2 : Pos} {hs : List ExceptHandler} {l : List Hdl} (nm : Names X x c) (hi : X.N[i]? = some n) (hl : X.env.kindOf n = some .local)
      (su : ∀ (a : Addr) (oe : Obj) (cls : Value) (d : Option Addr) (pn : List (Addr × Obj)), Zc cls d oe → (∃ vs, oe.data = .fields vs) → PSs (X.suite a ((a, oe) :: pn)) (st :: sts) (ts a cls d)) (r : HdMix X hs l) :
      HdMix X (.ExceptHandler (some (.Name x p1)) (some n) (st :: sts) p2 :: hs) ((c, some i, ts) :: l)
section
variable {X : Cx} {body : List Stmt} {h0 : ExceptHandler} {hs : List ExceptHandler} {l : List Hdl} {pos : Pos} {tb : WX → TS} {Wout : WX}
theorem ps_try_mix (hst : X.stack = X.env :: X.outer) (hf : X.env.frame = some X.env.locals) (hN : X.N.Nodup) (tk : Takes X Wout)
    (hb : ∀ (W : WX) (pn : List (Addr × Obj)) (xe : Value → Shared → Prop), Takes (X.tr pn xe) W → PassesOwn (model X.prog X.w) X.A X.env xe → PSs (X.tr pn xe) body (tb W))
    (hh : HdMix X (h0 :: hs) l) : PS X (.Try body (h0 :: hs) [] [] pos) (fun D σ H => tb (wMix X.K Wout D l) D σ H) := by
  refine ⟨fun pins s σ H D I h => ?_⟩
  have okX := I.ok
  have hfr : X.A.frames = some (X.env :: X.outer) := by rw [okX.frames, hst]
  refine wpAny_Try_except ?_
  refine wpAny_mono ((hb (wMix X.K Wout D l) (X.pn ++ pins) (fun v s1 => wpAny (model X.prog X.w) X.A (noteFrame v X.env) (fun _ s2 => wpAny (model X.prog X.w) X.A (setFlight v none) (fun _ s3 =>
    wpAny (model X.prog X.w) X.A (handleBy v X.env (h0 :: hs)) (SP X pins D) X.xe s3) X.xe s2) X.xe s1) (fun u s' come => ?_) PassesOwn.looking).run [] s σ H D (I.toTry _) h) (fun f s1 fine => ?_) (fun v s1 z => z)
  · obtain ⟨a, Bh, sI, pins', σ', H', cls, d, rfl, J', nb, up, sky, na, os, ag, ww⟩ := come
    have J : Inv X pins σ' H' sI := J'.ofTry okX
    have skyX : Sky Bh (X.env :: X.outer) a (Zc cls d) X.env.locals s'.heap := by rw [← hst]; exact sky
    show wpAny (model X.prog X.w) X.A (noteFrame (.ref a) X.env) _ _ _
    refine Sky.land Zc.steady hfr hf skyX fun h3 fl3 up3 => ?_
    have J3 : Inv X pins σ' H' { s' with heap := h3 } := J.landed nb fl3.1 (up.trans up3) os ag
    obtain ⟨oe3, vs3, he3, hz3, hd3⟩ := fl3.there
    have nfr : a ∉ frs (X.env :: X.outer) := fun hm => by
      obtain ⟨_, o', e', hnf⟩ := fl3.2.2.1.mem hm
      rw [he3] at e'
      cases e'
      exact hnf _ hd3
    have nL : a ≠ X.env.locals := fun z => nfr (List.mem_filterMap.mpr ⟨X.env, List.mem_cons_self, by rw [hf, z]⟩)
    have nF : a ∉ X.fs := fun hm => by
      obtain ⟨ev, hev, q⟩ := List.mem_filterMap.mp hm
      exact nfr (List.mem_filterMap.mpr ⟨ev, List.mem_cons_of_mem _ hev, q⟩)
    have S3 := J3.suite he3 hd3 na nL nF
    have LT : PySem.W.Looks (model X.prog X.w) h3 (typeOf (.ref a)) cls := fun A Q E s kk q => wpAny_typeOf_ref (kk _ _ he3) (by rw [hz3.1]; exact q)
    have asks : ∀ {x : Str} {c : Value} {p1 : Pos} {Q : Value → Shared → Prop} {E : Value → Shared → Prop}, Names X x c → Q c { s' with heap := h3 } → wpAny (model X.prog X.w) (X.A.mark (some (.ref a))) (eval (.Name x p1) X.env) Q E { s' with heap := h3 } := fun {x c p1 Q E} nm q => by
      obtain ⟨hg, hdbg, hm | ⟨hm, hv, hnn⟩⟩ := nm
      · exact ld_glob (X := X.suite a ((a, oe3) :: (X.pn ++ pins))) S3 hg hm q hdbg
      · exact ld_blt (X := X.suite a ((a, oe3) :: (X.pn ++ pins))) S3 hg hm hv q hnn hdbg
    have go : ∀ {hs' : List ExceptHandler} {l' : List Hdl}, HdMix X hs' l' → wMix X.K Wout D l' cls d σ' H' → wpAny (model X.prog X.w) X.A (handleBy (.ref a) X.env hs') (SP X pins D) X.xe { s' with heap := h3 } := by
      intro hs' l' hk
      induction hk with
      | nil =>
        intro ww
        refine wpAny_handleBy_nil ?_
        obtain ⟨k1, k2, k3, oe, vs, T, oT, ts', he, hz, hd, h1, hr⟩ := id fl3
        unfold PySem.passOn
        refine wpAny_bind (wpAny_field he hd h1 ?_)
        rw [if_neg (show ¬ ((Value.ref T == Value.none) = true) from by simp)]
        have leave : wpAny (model X.prog X.w) X.A (setFlight (.ref a) X.env.frame) (fun _ s4 => wpAny (model X.prog X.w) X.A (throw (.ref a) : Sem PySem.Flow) (SP X pins D) X.xe s4) X.xe { s' with heap := h3 } := by
          rw [hf]
          refine HandSPX.setFlight_upZ fl3 fun h4 hh4 up4 => wpAny_throw (tk _ _ ?_)
          exact ⟨a, Bh, sI, pins, σ', H', cls, d, rfl, J, nb, (up.trans up3).trans up4, .inr (.inr (by rw [hst]; exact hh4)), na, os, ag, ww⟩
        first
          | exact wpAny_bind (wpAny_pure (wpAny_bind leave))
          | exact wpAny_bind leave
      | @plain x c ts st sts p1 p2 hs2 l2 nm su r ih =>
        intro ww
        obtain ⟨b, hb1, hyes, hno⟩ := ww
        refine wpAny_handleBy_cons (codeAny_handlers_test ?_) (by intro q; cases q)
        refine asks nm ((PySem.W.exm_one (M := model X.prog X.w) (J3.kIn) LT hb1).here ?_)
        cases b with
        | false =>
          show wpAny _ X.A (handleBy (.ref a) X.env hs2) _ _ _
          exact ih (hno rfl)
        | true =>
          refine codeAny_handlers_suite ?_
          refine HandSPX.lands_againZ fl3 fun h4 fl4 up4 => ?_
          have J4 : Inv X pins σ' H' { s' with heap := h4 } := J.landed nb fl4.1 ((up.trans up3).trans up4) os ag
          obtain ⟨oe4, vs4, he4, hz4, hd4⟩ := fl4.there
          have S4 := J4.suite he4 hd4 na nL nF
          refine wpAny_mono ((su a oe4 cls d (X.pn ++ pins) hz4 ⟨_, hd4⟩).run [] _ _ H' _ S4 (hyes rfl a na)) (fun f s6 fine => ?_) (fun _ _ z => False.elim z)
          cases f with
          | next => exact fine.elim fun σ6 z => z.elim fun H6 y => ⟨_, _, y.1.unsuite okX, y.2⟩
          | brk => exact fine.elim fun σ6 z => z.elim fun H6 y => ⟨_, _, y.1.unsuite okX, y.2⟩
          | cont => exact fine.elim fun σ6 z => z.elim fun H6 y => ⟨_, _, y.1.unsuite okX, y.2⟩
          | ret u => exact fine.elim fun v6 z => z.elim fun σ6 z => z.elim fun H6 y => ⟨_, _, _, y.1.unsuite okX, y.2.1, y.2.2⟩
      | @named x n c i ts st sts p1 p2 hs2 l2 nm hi hl su r ih =>
        intro ww
        obtain ⟨b, hb1, hyes, hno⟩ := ww
        refine wpAny_handleBy_cons (codeAny_handlers_test ?_) (by intro q; cases q)
        refine asks nm ((PySem.W.exm_one (M := model X.prog X.w) (J3.kIn) LT hb1).here ?_)
        cases b with
        | false =>
          show wpAny _ X.A (handleBy (.ref a) X.env hs2) _ _ _
          exact ih (hno rfl)
        | true =>
          refine codeAny_handlers_suite_as ?_
          refine HandSPX.lands_againZ fl3 fun h4 fl4 up4 => ?_
          have J4 : Inv X pins σ' H' { s' with heap := h4 } := J.landed nb fl4.1 ((up.trans up3).trans up4) os ag
          obtain ⟨oe4, vs4, he4, hz4, hd4⟩ := fl4.there
          have S4 := J4.suite he4 hd4 na nL nF
          refine store_ok (X := X.suite a ((a, oe4) :: (X.pn ++ pins))) (v := .ref a) S4 hN hi (.inl hl) rfl (fun s5 S5 => ?_) (.inr hl)
          refine wpAny_mono ((su a oe4 cls d (X.pn ++ pins) hz4 ⟨_, hd4⟩).run [] s5 _ H' _ S5 (hyes rfl a na)) (fun f s6 fine => ?_) (fun _ _ z => False.elim z)
          have gone : ∀ {σ6 : L2.St} {H6 : Hp} {Q : Shared → Prop}, Inv (X.suite a ((a, oe4) :: (X.pn ++ pins))) [] σ6 H6 s6 → (∀ s7, Inv X pins (σ6.set i none) H6 s7 → Q s7) →
              wpAny (model X.prog X.w) X.A (do bindName X.env n .none; unbindBehindTheSuite X.env n p2) (fun _ s7 => Q s7) X.xe s6 := fun {σ6 H6 Q} S6 hq => gone_ok (S6.unsuite okX) hN hi hl hq
          cases f with
          | next => exact fine.elim fun σ6 z => z.elim fun H6 y => gone y.1 fun s7 J7 => ⟨_, _, J7, y.2⟩
          | brk => exact fine.elim fun σ6 z => z.elim fun H6 y => gone y.1 fun s7 J7 => ⟨_, _, J7, y.2⟩
          | cont => exact fine.elim fun σ6 z => z.elim fun H6 y => gone y.1 fun s7 J7 => ⟨_, _, J7, y.2⟩
          | ret u => exact fine.elim fun v6 z => z.elim fun σ6 z => z.elim fun H6 y => gone y.1 fun s7 J7 => ⟨_, _, _, J7, y.2.1, y.2.2⟩
    exact go hh ww
  · cases f with
    | next => exact fine.elim fun σ6 z => z.elim fun H6 y => wpAny_execs_nil ⟨σ6, H6, y.1.ofTry okX, y.2⟩
    | brk => exact fine.elim fun σ6 z => z.elim fun H6 y => ⟨σ6, H6, y.1.ofTry okX, y.2⟩
    | cont => exact fine.elim fun σ6 z => z.elim fun H6 y => ⟨σ6, H6, y.1.ofTry okX, y.2⟩
    | ret u => exact fine.elim fun v6 z => z.elim fun σ6 z => z.elim fun H6 y => ⟨v6, σ6, H6, y.1.ofTry okX, y.2.1, y.2.2⟩
end
end DM
set_option Elab.async false
set_option linter.all false
set_option maxRecDepth 100000
set_option maxHeartbeats 1000000
namespace DM
open PySem PySem.Spec PyProof.Rows L2
section
variable {K : PySem.W.Frag} {mg : Str → Option Value} {ex ex' : Option (Addr × Obj)} {F : Hp} {m : List Addr}
mutual
theorem Rep.ct : ∀ (d : D) (x : V), Rep ⟨K, mg, ex⟩ F m d x → Rep ⟨K, mg, ex'⟩ F m d x
  | .non, _, h => h
  | .bl _, _, h => h
  | .int _, _, h => h
  | .str _, _, h => h
  | .ty _, _, h => h
  | .tup ds, _, ⟨a, xs, e, q, r⟩ => ⟨a, xs, e, q, RepL.ct ds xs r⟩
  | .lst ds, _, ⟨a, xs, e, q, r⟩ => ⟨a, xs, e, q, RepL.ct ds xs r⟩
  | .scr _, _, ⟨a, e, q⟩ => ⟨a, e, q⟩
  | .dicK ds, _, ⟨a, xs, e, q, r⟩ => ⟨a, xs, e, q, RepK.ct ds xs r⟩
  | .dicT ds, _, ⟨a, xs, e, q, r⟩ => ⟨a, xs, e, q, RepT.ct ds xs r⟩
  | .ins _ fs, _, ⟨a, C, dx, xs, e, g, h1, h2, r⟩ => ⟨a, C, dx, xs, e, g, h1, h2, RepF.ct fs xs r⟩
  | .cel _, _, ⟨a, h, e⟩ => ⟨a, h, e⟩
theorem RepL.ct : ∀ (d : List D) (x : List V), RepL ⟨K, mg, ex⟩ F m d x → RepL ⟨K, mg, ex'⟩ F m d x
  | [], _, h => h
  | d :: ds, _, ⟨y, ys, e, h, r⟩ => ⟨y, ys, e, Rep.ct d y h, RepL.ct ds ys r⟩
theorem RepK.ct : ∀ (d : List (Key × D)) (x : List (Key × V)), RepK ⟨K, mg, ex⟩ F m d x → RepK ⟨K, mg, ex'⟩ F m d x
  | [], _, h => h
  | (_, d) :: ds, _, ⟨y, ys, e, h, r⟩ => ⟨y, ys, e, Rep.ct d y h, RepK.ct ds ys r⟩
theorem RepT.ct : ∀ (d : List (List Key × D)) (x : List (List Key × V)), RepT ⟨K, mg, ex⟩ F m d x → RepT ⟨K, mg, ex'⟩ F m d x
  | [], _, h => h
  | (_, d) :: ds, _, ⟨y, ys, e, h, r⟩ => ⟨y, ys, e, Rep.ct d y h, RepT.ct ds ys r⟩
theorem RepF.ct : ∀ (d : List (Str × D)) (x : List (Str × V)), RepF ⟨K, mg, ex⟩ F m d x → RepF ⟨K, mg, ex'⟩ F m d x
  | [], _, h => h
  | (_, d) :: ds, _, ⟨y, ys, e, h, r⟩ => ⟨y, ys, e, Rep.ct d y h, RepF.ct ds ys r⟩
end
def cleanSl : Slot → Bool
  | .exn _ _ => false
  | _ => true
def cleanE (env : List (Option Slot)) : Bool := env.all fun o => match o with
  | some t => cleanSl t
  | none => true
def cleanC (cells : List Cell) : Bool := cells.all fun c => match c with
  | .ins _ fs => fs.all fun p => cleanSl p.2
  | _ => true
theorem SlotOk.ct {H : Hp} {w : Wd} {t : Tag} : ∀ {sl : Slot} {x : V}, (ex = none ∨ cleanSl sl = true) → SlotOk ⟨K, mg, ex⟩ H w t sl x → SlotOk ⟨K, mg, ex'⟩ H w t sl x
  | .val d, _, _, h => Rep.ct _ _ h
  | .own _, _, _, ⟨a, xs, e, ht, hh, r⟩ => ⟨a, xs, e, ht, hh, RepL.ct _ _ r⟩
  | .ownK _, _, _, ⟨a, xs, e, ht, hh, r⟩ => ⟨a, xs, e, ht, hh, RepK.ct _ _ r⟩
  | .ownT _, _, _, ⟨a, xs, e, ht, hh, r⟩ => ⟨a, xs, e, ht, hh, RepT.ct _ _ r⟩
  | .exn _ _, _, k, ⟨a, oe, C, d, xs, e1, _⟩ => by
    rcases k with k | k
    · have e2 : ex = some (a, oe) := e1
      rw [k] at e2; cases e2
    · cases k
  | .ownI _ _, _, _, ⟨a, C, dx, xs, e1, e2, h1, h2, h3, h4, r⟩ => ⟨a, C, dx, xs, e1, e2, h1, h2, h3, h4, RepF.ct _ _ r⟩
theorem FldsOk.ct {H : Hp} {w : Wd} {n : Nat} : ∀ {fs : List (Str × Slot)} {xs : List (Str × V)}, (ex = none ∨ (fs.all fun p => cleanSl p.2) = true) → FldsOk ⟨K, mg, ex⟩ H w n fs xs → FldsOk ⟨K, mg, ex'⟩ H w n fs xs
  | [], _, _, h => h
  | (f, sl) :: r, _, k, ⟨y, ys, e, h, hr⟩ => ⟨y, ys, e, SlotOk.ct (k.imp id fun z => (Bool.and_eq_true_iff.mp (by rw [List.all_cons] at z; exact z)).1) h,
      FldsOk.ct (k.imp id fun z => (Bool.and_eq_true_iff.mp (by rw [List.all_cons] at z; exact z)).2) hr⟩
theorem CellOk.ct {H : Hp} {w : Wd} {n : Nat} {a : Addr} : ∀ {cl : Cell}, (ex = none ∨ (match cl with
  | .ins _ fs => fs.all fun p => cleanSl p.2
  | _ => true) = true) → CellOk ⟨K, mg, ex⟩ H w n a cl → CellOk ⟨K, mg, ex'⟩ H w n a cl
  | .lst _, _, ⟨xs, h, r⟩ => ⟨xs, h, RepL.ct _ _ r⟩
  | .dK _, _, ⟨xs, h, r⟩ => ⟨xs, h, RepK.ct _ _ r⟩
  | .dT _, _, ⟨xs, h, r⟩ => ⟨xs, h, RepT.ct _ _ r⟩
  | .ins _ _, k, ⟨C, dx, xs, g, h, ht, hd, r⟩ => ⟨C, dx, xs, g, h, ht, hd, FldsOk.ct k r⟩
theorem all_get {α : Type} {p : α → Bool} {l : List α} {i : Nat} {a : α} (h : l.all p = true) (e : l[i]? = some a) : p a = true := List.all_eq_true.mp h a (List.mem_of_getElem? e)
theorem Sim.ct {B : Bs} {s : S} {σ : L2.St} {H : Hp} {w : Wd} (S : Sim ⟨K, mg, ex⟩ B s σ H w) (k : ex = none ∨ (cleanE s.env && cleanC s.cells) = true) : Sim ⟨K, mg, ex'⟩ B s σ H w :=
  ⟨⟨S.co.sub, S.co.tg, S.co.len, fun n cl e => by
    obtain ⟨a, h1, h2, h3⟩ := S.co.at_ n cl e
    refine ⟨a, h1, h2, CellOk.ct (k.imp id fun z => ?_) h3⟩
    exact all_get (p := fun c : Cell => match c with
      | .ins _ fs => fs.all fun p => cleanSl p.2
      | _ => true) (Bool.and_eq_true_iff.mp z).2 e⟩, S.len, fun i t e => by
    obtain ⟨x, hx, h⟩ := S.sl i t e
    refine ⟨x, hx, SlotOk.ct (k.imp id fun z => ?_) h⟩
    exact all_get (p := fun o : Option Slot => match o with
      | some t => cleanSl t
      | none => true) (Bool.and_eq_true_iff.mp z).1 e, S.fr, S.me⟩
end
theorem Sim.setNone {c : Ct} {B : Bs} {s : S} {σ : L2.St} {H : Hp} {w : Wd} {i : Nat} {o : Option V} (S : Sim c B s σ H w) : Sim c B ⟨s.env.set i none, s.cells⟩ (σ.set i o) H w :=
  ⟨S.co, by show (s.env.set i none).length = _; rw [List.length_set, List.length_set]; exact S.len, fun j t e => by
    by_cases hj : i = j
    · subst hj
      rw [List.getElem?_set] at e
      simp at e
    · rw [List.getElem?_set_ne hj] at e
      obtain ⟨x, hx, k⟩ := S.sl j t e
      exact ⟨x, by rw [List.getElem?_set_ne hj]; exact hx, k⟩, S.fr, fun j cn fs y e ey => by
    by_cases hj : i = j
    · subst hj
      rw [List.getElem?_set] at e
      simp at e
    · rw [List.getElem?_set_ne hj] at e ey
      exact S.me j cn fs y e ey⟩
structure DH where
  cls : Str
  slot : Option Nat
  body : MS
def tidy (s : S) : Bool := cleanE s.env && cleanC s.cells
def leaveH (o : Option Nat) (r : Res Flow) : Res Flow := match r with
  | .ok f s => (match o with
    | some i => if tidy ⟨s.env.set i none, s.cells⟩ then .ok f ⟨s.env.set i none, s.cells⟩ else .bad
    | none => if tidy s then .ok f s else .bad)
  | _ => .bad
def excSl (e : Exc) : Option Slot := match e.fs with
  | [] => none
  | fs => some (.exn e.cls fs)
def runDH (h : DH) (e : Exc) : MS := fun s => match h.slot with
  | some i => leaveH h.slot (h.body ⟨s.env.set i (excSl e), s.cells⟩)
  | none => leaveH h.slot (h.body s)
def tryGo (exm : Str → Str → Option Bool) (e : Exc) : List DH → MS
  | [] => fun s => .exc e s
  | h :: hs => fun s => match exm e.cls h.cls with
    | some true => runDH h e s
    | some false => tryGo exm e hs s
    | none => .bad
def mTry (exm : Str → Str → Option Bool) (mb : MS) (hs : List DH) : MS := fun s => match mb s with
  | .exc e s' => tryGo exm e hs s'
  | r => r
def ExmOk (X : Cx) (exm : Str → Str → Option Bool) : Prop := ∀ n1 n2 b C1 C2, exm n1 n2 = some b → X.mg n1 = some (.ref C1) → X.mg n2 = some (.ref C2) → PySem.W.exmOne X.K (.ref C1) (.ref C2) = some b
def DSu (X : Cx) (sts : List Stmt) (m : MS) : Prop := ∀ (a : Addr) (oe : Obj) (C : Addr) (d : Option Addr) (pn : List (Addr × Obj)), Zc (.ref C) d oe → (∃ vs, oe.data = .fields vs) → DSs (X.suite a ((a, oe) :: pn)) WF sts m
inductive DHs (X : Cx) : List ExceptHandler → List DH → Prop
  | nil : DHs X [] []
  | plain {x : Str} {C : Addr} {m : MS} {st : Stmt} {sts : List Stmt} {p1 p2 : Pos} {hs : List ExceptHandler} {l : List DH} (hm : X.mg x = some (.ref C)) (hg : Gl X x) (hd : (x == ("__debug__" : Str)) = false) (su : DSu X (st :: sts) m) (r : DHs X hs l) :
      DHs X (.ExceptHandler (some (.Name x p1)) none (st :: sts) p2 :: hs) (⟨x, none, m⟩ :: l)
  | named {x n : Str} {C : Addr} {i : Nat} {m : MS} {st : Stmt} {sts : List Stmt} {p1 p2 : Pos} {hs : List ExceptHandler} {l : List DH} (hm : X.mg x = some (.ref C)) (hg : Gl X x) (hd : (x == ("__debug__" : Str)) = false) (hi : X.N[i]? = some n) (hl : X.env.kindOf n = some .local) (su : DSu X (st :: sts) m) (r : DHs X hs l) :
      DHs X (.ExceptHandler (some (.Name x p1)) (some n) (st :: sts) p2 :: hs) (⟨x, some i, m⟩ :: l)
section
variable {X : Cx} {W : WX}
def suTs {X : Cx} {sts : List Stmt} {m : MS} (su : DSu X sts m) (a : Addr) (cls : Value) (d : Option Addr) : TS := fun D σ H => (∃ C, cls = .ref C) ∧ ∀ (C : Addr) (oe : Obj) (pn : List (Addr × Obj)) (e : cls = .ref C) (hz : Zc (.ref C) d oe) (hf : ∃ vs, oe.data = .fields vs), (su a oe C d pn hz hf).choose D σ H
theorem suTs_ps {sts : List Stmt} {m : MS} (su : DSu X sts m) (a : Addr) (oe : Obj) (cls : Value) (d : Option Addr) (pn : List (Addr × Obj)) (hz : Zc cls d oe) (hf : ∃ vs, oe.data = .fields vs) : PSs (X.suite a ((a, oe) :: pn)) sts (suTs su a cls d) :=
  ⟨fun pins s σ H D I q => by
    obtain ⟨⟨C, rfl⟩, q⟩ := q
    exact (su a oe C d pn hz hf).choose_spec.1.run pins s σ H D I (q C oe pn rfl hz hf)⟩
theorem suite_ok {c : Ct} (hcx : XC X = ⟨X.K, X.mg, none⟩) {sts : List Stmt} {m : MS} (su : DSu X sts m) {o : Option Nat} {B : Bs} {e : Exc} {s : S} {σ : L2.St} {H : Hp} {w : Wd} {D : Ends} {a C : Addr} {d : Option Addr} (S : Sim (XC X) B s σ H w) (hx : ExcOk (XC X) H w e (.ref C) d)
    (p : PostS (XC X) B W (runDH ⟨e.cls, o, m⟩ e s) w D) : runH o (suTs su) a (.ref C) d D σ H := by
  obtain ⟨C', hC, hCC, hfs⟩ := hx
  cases hCC
  cases o with
  | none =>
    show suTs su a (.ref C) d D σ H
    refine ⟨⟨C, rfl⟩, ?_⟩
    intro C2 oe pn e2 hz hf
    cases e2
    have k := (su a oe C d pn hz hf).choose_spec.2
    refine k B s σ H w D ?_ ?_
    · rw [hcx] at S
      exact S.ct (.inl rfl)
    · unfold runDH leaveH at p
      dsimp only at p
      cases em : m s with
      | exc ex s1 => simp only [em] at p; exact p.elim
      | bad => simp only [em] at p; exact p.elim
      | ok f s1 =>
        simp only [em] at p
        split at p
        · rename_i ht
          have conv : ∀ {σ' H' w'}, Sim (XC (X.suite a ((a, oe) :: pn))) B s1 σ' H' w' → Sim (XC X) B s1 σ' H' w' := fun S1 => by
            rw [hcx]
            exact Sim.ct S1 (.inr ht)
          cases f with
          | nx => exact fun σ' H' w' l S1 => p σ' H' w' l (conv S1)
          | bk => exact fun σ' H' w' l S1 => p σ' H' w' l (conv S1)
          | ct => exact fun σ' H' w' l S1 => p σ' H' w' l (conv S1)
          | rt v => exact fun x σ' H' w' l S1 rx => p x σ' H' w' l (conv S1) (by rw [hcx]; exact Rep.ct _ _ rx)
        · exact p.elim
  | some i =>
    show suTs su a (.ref C) d (endAt i D) (σ.set i (some (.ref a))) H
    refine ⟨⟨C, rfl⟩, ?_⟩
    intro C2 oe pn e2 hz hf
    cases e2
    have k := (su a oe C d pn hz hf).choose_spec.2
    refine k B ⟨s.env.set i (excSl e), s.cells⟩ (σ.set i (some (.ref a))) H w (endAt i D) ?_ ?_
    · have S0 : Sim (XC (X.suite a ((a, oe) :: pn))) B ⟨s.env.set i none, s.cells⟩ (σ.set i (some (.ref a))) H w := by
        rw [hcx] at S
        exact Sim.ct S.setNone (.inl rfl)
      unfold excSl
      split
      · exact S0
      · rename_i hne
        have sl : SlotOk (XC (X.suite a ((a, oe) :: pn))) H w (.slot i) (.exn e.cls e.fs) (.ref a) := by
          rcases hfs with ⟨h1, _⟩ | ⟨dd, xs, h1, h2, h3⟩
          · exact absurd h1 hne
          · subst h1
            exact ⟨a, oe, C, dd, xs, rfl, rfl, hC, hz, hf, h2, by rw [hcx] at h3; exact RepF.ct _ _ h3⟩
        refine ⟨S0.co, ?_, fun j t ej => ?_, S0.fr, fun j cn fs y ej ey => ?_⟩
        · have := S0.len
          rw [List.length_set] at this
          show (s.env.set i _).length = _
          rw [List.length_set]
          exact this
        · by_cases hj : i = j
          · subst hj
            have hl : i < s.env.length := by
              have h0 := (List.getElem?_eq_some_iff.mp ej).1
              rw [List.length_set] at h0
              exact h0
            rw [get_set_self hl] at ej
            cases ej
            refine ⟨.ref a, ?_, sl⟩
            rw [get_set_self]
            rw [← S.len]; exact hl
          · rw [List.getElem?_set_ne hj] at ej
            exact S0.sl j t (by rw [List.getElem?_set_ne hj]; exact ej)
        · by_cases hj : i = j
          · subst hj
            have hl : i < s.env.length := by
              have h0 := (List.getElem?_eq_some_iff.mp ej).1
              rw [List.length_set] at h0
              exact h0
            rw [get_set_self hl] at ej
            cases ej
          · rw [List.getElem?_set_ne hj] at ej
            exact S0.me j cn fs y (by rw [List.getElem?_set_ne hj]; exact ej) ey
    · unfold runDH leaveH at p
      dsimp only at p
      cases em : m ⟨s.env.set i (excSl e), s.cells⟩ with
      | exc ex s1 => simp only [em] at p; exact p.elim
      | bad => simp only [em] at p; exact p.elim
      | ok f s1 =>
        simp only [em] at p
        split at p
        · rename_i ht
          have conv : ∀ {σ' H' w'}, Sim (XC (X.suite a ((a, oe) :: pn))) B s1 σ' H' w' → Sim (XC X) B ⟨s1.env.set i none, s1.cells⟩ (σ'.set i none) H' w' := fun S1 => by
            rw [hcx]
            exact Sim.ct S1.setNone (.inr ht)
          cases f with
          | nx => exact fun σ' H' w' l S1 => p _ H' w' l (conv S1)
          | bk => exact fun σ' H' w' l S1 => p _ H' w' l (conv S1)
          | ct => exact fun σ' H' w' l S1 => p _ H' w' l (conv S1)
          | rt v => exact fun x σ' H' w' l S1 rx => p x _ H' w' l (conv S1) (by rw [hcx]; exact Rep.ct _ _ rx)
        · exact p.elim
theorem exc_ne {exm : Str → Str → Option Bool} (hex : ExmOk X exm) (hcx : XC X = ⟨X.K, X.mg, none⟩) {hs : List ExceptHandler} {dhs : List DH} (h : DHs X hs dhs) :
    ∃ l, HdMix X hs l ∧ ∀ B e s σ H w D cls d, Sim (XC X) B s σ H w → ExcOk (XC X) H w e cls d → PostS (XC X) B W (tryGo exm e dhs s) w D → wMix X.K W D l cls d σ H := by
  induction h with
  | nil => exact ⟨[], .nil, fun B e s σ H w D cls d S hx p => p cls d σ H w (Wd.le.refl w) S hx⟩
  | @plain x C m st sts p1 p2 hs dl hm hg hd su r ih =>
    obtain ⟨l, hl, k⟩ := ih
    refine ⟨_, .plain ⟨hg, hd, .inl hm⟩ (suTs_ps su) hl, fun B e s σ H w D cls d S hx p => ?_⟩
    unfold tryGo at p
    dsimp only at p
    cases q : exm e.cls x with
    | none => simp only [q] at p; exact p.elim
    | some b =>
      simp only [q] at p
      obtain ⟨C0, hC, rfl, hfs⟩ := id hx
      refine ⟨b, hex _ _ _ _ _ q hC hm, fun hb a na => ?_, fun hb => ?_⟩
      · subst hb
        exact suite_ok (c := XC X) hcx su (o := none) S hx p
      · subst hb
        exact k B e s σ H w D _ d S hx p
  | @named x n C i m st sts p1 p2 hs dl hm hg hd hi hl su r ih =>
    obtain ⟨l, hl', k⟩ := ih
    refine ⟨_, .named ⟨hg, hd, .inl hm⟩ hi hl (suTs_ps su) hl', fun B e s σ H w D cls d S hx p => ?_⟩
    unfold tryGo at p
    dsimp only at p
    cases q : exm e.cls x with
    | none => simp only [q] at p; exact p.elim
    | some b =>
      simp only [q] at p
      obtain ⟨C0, hC, rfl, hfs⟩ := id hx
      refine ⟨b, hex _ _ _ _ _ q hC hm, fun hb a na => ?_, fun hb => ?_⟩
      · subst hb
        exact suite_ok (c := XC X) hcx su (o := some i) S hx p
      · subst hb
        exact k B e s σ H w D _ d S hx p
theorem ds_try {exm : Str → Str → Option Bool} {body : List Stmt} {h0 : ExceptHandler} {hs : List ExceptHandler} {mb : MS} {dhs : List DH} {pos : Pos} (hN : X.N.Nodup) (tk : Takes X W) (hex : ExmOk X exm)
    (hb : ∀ (W' : WX) (pn : List (Addr × Obj)) (xe : Value → Shared → Prop), Takes (X.tr pn xe) W' → PassesOwn (model X.prog X.w) X.A X.env xe → DSs (X.tr pn xe) W' body mb) (hh : DHs X (h0 :: hs) dhs)
    (hc : X.calm = true := by rfl) (hst : X.stack = X.env :: X.outer := by rfl) (hf : X.env.frame = some X.env.locals := by rfl) : DS X W (.Try body (h0 :: hs) [] [] pos) (mTry exm mb dhs) := by
  have hcx := xc_calm hc
  obtain ⟨l, hl, k⟩ := exc_ne (W := W) hex hcx hh
  refine ds_of (ps_try_mix (tb := fun W' D σ H => ∀ pn xe tk' po, (hb W' pn xe tk' po).choose D σ H) hst hf hN tk (fun W' pn xe tk' po => ⟨fun pins s σ H D I q => (hb W' pn xe tk' po).choose_spec.1.run pins s σ H D I (q pn xe tk' po)⟩) hl) fun B s σ H w D S p => ?_
  intro pn xe tk' po
  have kb := (hb (wMix X.K W D l) pn xe tk' po).choose_spec.2
  refine kb B s σ H w D (by rw [xc_calm (X := X.tr pn xe) hc]; rw [hcx] at S; exact S) ?_
  have back : ∀ {s' σ' H' w'}, Sim (XC (X.tr pn xe)) B s' σ' H' w' → Sim (XC X) B s' σ' H' w' := fun S1 => by
    rw [xc_calm (X := X.tr pn xe) hc] at S1
    rw [hcx]
    exact S1
  unfold mTry at p
  cases em : mb s with
  | bad => rw [em] at p; exact p
  | ok f s1 =>
    rw [em] at p
    cases f with
    | nx => exact fun σ' H' w' l' S1 => p σ' H' w' l' (back S1)
    | bk => exact fun σ' H' w' l' S1 => p σ' H' w' l' (back S1)
    | ct => exact fun σ' H' w' l' S1 => p σ' H' w' l' (back S1)
    | rt v => exact fun x σ' H' w' l' S1 rx => p x σ' H' w' l' (back S1) (by
        rw [xc_calm (X := X.tr pn xe) hc] at rx
        rw [hcx]
        exact rx)
  | exc e s1 =>
    rw [em] at p
    intro cls d σ' H' w' l' S1 hx
    refine k B e s1 σ' H' w' D cls d (back S1) ?_ (PostS.up p l')
    rw [xc_calm (X := X.tr pn xe) hc] at hx
    rw [hcx]
    exact hx
def mXf (cn : Str) (i : Nat) (f : Str) : M D := fun s => match s.env[i]? with
  | some (some (.exn n fs)) => if n = cn then (match fs.lookup f with
    | some v => .ok v s
    | none => .bad) else .bad
  | _ => .bad
theorem de_xf (i : Nat) {X : Cx} {W : WX} {cn x f : Str} {a C C0 : Addr} {oe : Obj} {d : Option Addr} {pn : List (Addr × Obj)} {p pos : Pos} (hz : Zc (.ref C) d oe) (hf : ∃ vs, oe.data = .fields vs) (hm : X.mg cn = some (.ref C0)) (T : XfC X.K C0) (hno : PySem.W.findIn X.K (.ref C0) f = some none)
    (hN : X.N[i]? = some x := by rfl) (hv : Vis X.env.scope x := by first | exact Or.inl rfl | exact Or.inr (Or.inl rfl) | exact Or.inr (Or.inr rfl)) (hd : (x == ("__debug__" : Str)) = false := by decide) (hcd : (x == ("__classdict__" : Str)) = false := by decide)
    (hb : attributeBase (.Name x p) f X.env (eval (.Name x p) X.env) = eval (.Name x p) X.env := by rfl) : DE (X.suite a ((a, oe) :: pn)) W (.Attribute (.Name x p) f pos) (mXf cn i f) := by
  have pe : PE (X.suite a ((a, oe) :: pn)) (.Attribute (.Name x p) f pos) (fun σ H Q => C = C0 ∧ tXf a (.ref C) d C f (tVar i) σ H Q) := ⟨fun pins s σ H Q I h => by
    obtain ⟨rfl, h⟩ := h
    exact (pe_xf T hno hz hf (pe_var (X := X.suite a ((a, oe) :: pn)) hN hv hd hcd) hb).run pins s σ H Q I h⟩
  refine de_of pe fun B s σ H w Q S h => ?_
  unfold mXf at h
  split at h
  · rename_i n fs e
    split at h
    · rename_i hn
      subst hn
      split at h
      · rename_i v hl
        obtain ⟨x0, hx, a', oe', C', dd, xs, e1, e2, e3, e4, e5, e6, r⟩ := S.sl i _ e
        cases (show some (a, oe) = some (a', oe') from e1)
        obtain ⟨z, hz', rz⟩ := RepF.lookup r hl
        have ed : d = some dd := hz.2.symm.trans e4.2
        have e3' : X.mg n = some (.ref C') := e3
        rw [hm] at e3'
        cases e3'
        have ec : Value.ref C = Value.ref C0 := hz.1.symm.trans e4.1
        cases ec
        exact ⟨rfl, x0, hx, e2, rfl, dd, xs, z, ed, S.co.sub.at e6 rfl, hz', h z H w (Wd.le.refl w) S rz⟩
      · exact h.elim
    · exact h.elim
  · exact h.elim
end
end DM
set_option Elab.async false
set_option linter.all false
set_option maxRecDepth 100000
set_option maxHeartbeats 1000000
namespace DM
open PySem PySem.Spec PyProof.Rows L2
def tSub (i : Nat) (mi : M D) : D → M Unit := fun v => fun s => match getL s i with
  | some _ => (match mi s with
    | .ok k s1 => (match getL s1 i, k with
      | some ds, .int n => (match ixN ds.length n with
        | some j => .ok () (putL s1 i (ds.set j v))
        | none => .bad)
      | _, _ => .bad)
    | _ => .bad)
  | none => .bad
section
variable {X : Cx} {W : WX}
theorem dg_sub (i : Nat) {x : Str} {e : Expr} {mi : M D} {p pos : Pos} (he : DE X WF e mi) (hN : X.N[i]? = some x := by rfl) (hv : Vis X.env.scope x := by first | exact Or.inl rfl | exact Or.inr (Or.inl rfl) | exact Or.inr (Or.inr rfl))
    (hd : (x == ("__debug__" : Str)) = false := by decide) (hcd : (x == ("__classdict__" : Str)) = false := by decide)
    (ha : ∀ v, assign (.Subscript (.Name x p) e pos) X.env v = (do
      let ov ← holding [v] (eval (.Name x p) X.env)
      let iv ← holding [v, ov] (eval e X.env)
      standAt pos
      holding [v, ov, iv] (setItem ov iv v)
      release [v, ov, iv] []) := by intro _; rfl) : DG X (.Subscript (.Name x p) e pos) [] (tSub i mi) := by
  obtain ⟨t, ht, k⟩ := he
  refine ⟨_, pg_sub (pv_at i hN hv hd hcd) ht set_list ha, fun B s σ H w d y Q S r q => ?_⟩
  unfold tSub at q
  cases e0 : getL s i with
  | none => simp only [e0] at q; exact q.elim
  | some ds0 =>
    simp only [e0] at q
    obtain ⟨a, xs0, hx, h1, _, _⟩ := S.getL e0
    refine ⟨.ref a, hx, k B s σ H w _ S ?_⟩
    cases em : mi s with
    | exc ex s1 => simp only [em] at q; exact q.elim
    | bad => simp only [em] at q; exact q.elim
    | ok kk s1 =>
      simp only [em] at q
      intro z H1 w1 l1 S1 rz
      cases e1 : getL s1 i with
      | none => simp only [e1] at q; exact q.elim
      | some ds =>
        cases kk with
        | int n =>
          simp only [e1] at q
          obtain ⟨a', xs, hx', h2, r2, upd2⟩ := S1.getL e1
          rw [hx] at hx'
          cases hx'
          cases ej : ixN ds.length n with
          | none => simp only [ej] at q; exact q.elim
          | some j =>
            simp only [ej] at q
            refine ⟨a, xs, n, j, rfl, rz, h2, by rw [← r2.length]; exact ej, ?_⟩
            exact q σ _ w1 l1 (upd2 _ _ (RepL.set r2 (RepW.le l1 r))) (OnlyAt.refl _ _)
        | _ => simp only [e1] at q; exact q.elim
theorem Sim.alloc {c : Ct} {B : Bs} {s : S} {σ : L2.St} {H : Hp} {w : Wd} {a : Addr} {u : HO} {cl : Cell} (S : Sim c B s σ H w) (h1 : H a = some u) (h2 : w.F a = none) (h3 : w.T a = none)
    (r : CellOk c H ⟨w.F, w.m ++ [a], fun b => if b = a then some (.cell s.cells.length) else w.T b⟩ s.cells.length a cl) : w.le ⟨w.F, w.m ++ [a], fun b => if b = a then some (.cell s.cells.length) else w.T b⟩ ∧ Sim c B ⟨s.env, s.cells ++ [cl]⟩ σ H ⟨w.F, w.m ++ [a], fun b => if b = a then some (.cell s.cells.length) else w.T b⟩ := by
  have l : w.le ⟨w.F, w.m ++ [a], fun b => if b = a then some (.cell s.cells.length) else w.T b⟩ := ⟨Sub.refl _, List.prefix_append _ _⟩
  have other : ∀ b t, w.T b = some t → (if b = a then some (Tag.cell s.cells.length) else w.T b) = some t := fun b t k1 => by
    rw [if_neg fun e => by rw [e, h3] at k1; cases k1]
    exact k1
  refine ⟨l, S.step (fun _ => True) l (fun b t o' _ k1 k2 => ⟨other b t k1, k2⟩) trivial S.co.sub (fun b t h => ?_) S.len (fun j t h => .inl ⟨trivial, h, rfl⟩) ?_ fun n cl' h => ?_⟩
  · have h' : (if b = a then some (Tag.cell s.cells.length) else w.T b) = some t := h
    by_cases hb : b = a
    · rw [hb]; exact ⟨h2, by rw [h1]; intro q; cases q⟩
    · rw [if_neg hb] at h'; exact S.co.tg b t h'
  · show (w.m ++ [a]).length = (s.cells ++ [cl]).length
    rw [List.length_append, List.length_append, S.co.len] <;> rfl
  · by_cases hn : n < s.cells.length
    · rw [List.getElem?_append_left hn] at h
      exact .inl ⟨fun _ _ => trivial, h⟩
    · have hn' : n = s.cells.length := by
        have := (List.getElem?_eq_some_iff.mp h).1
        rw [List.length_append] at this
        have h1' : [cl].length = 1 := rfl
        omega
      subst hn'
      rw [List.getElem?_append_right (Nat.le_refl _), Nat.sub_self] at h
      cases h
      refine .inr ⟨a, ?_, if_pos rfl, r⟩
      show (w.m ++ [a])[s.cells.length]? = some a
      rw [← S.co.len, List.getElem?_append_right (Nat.le_refl _), Nat.sub_self] <;> rfl
def mAlloc (m : M (List D)) : M D := bnd m fun ds => fun s => .ok (.cel s.cells.length) ⟨s.env, s.cells ++ [.lst ds]⟩
theorem post_of_alloc {c : Ct} {B : Bs} {m : M (List D)} {s : S} {σ : L2.St} {w : Wd} {Q : V → Hp → Prop} (h : Post c B W (RepW c) (mAlloc m s) σ w Q) : PostF c B W (m s) σ w Q := by
  unfold mAlloc bnd at h
  cases e : m s with
  | ok ds s1 =>
    rw [e] at h
    intro x H' w' l S1 r
    obtain ⟨a, xs, e1, h1, h2, h3, r⟩ := r
    obtain ⟨l2, S2⟩ := S1.alloc (cl := .lst ds) h1 h2 h3 ⟨xs, h1, RepL.mono (Sub.refl _) (List.prefix_append _ _) _ _ r⟩
    refine h x H' _ (l.trans l2) S2 ⟨a, ?_, e1⟩
    show (w'.m ++ [a])[s1.cells.length]? = some a
    rw [← S1.co.len, List.getElem?_append_right (Nat.le_refl _), Nat.sub_self] <;> rfl
  | exc ex s1 => rw [e] at h; exact h
  | bad => rw [e] at h; exact h
theorem DF.cell {e : Expr} {m : M (List D)} (h : DF X W e m) : DE X W e (mAlloc m) := by
  obtain ⟨t, ht, kt⟩ := h
  exact de_of ht fun B s σ H w Q S p => kt B s σ H w Q S (post_of_alloc p)
def mParL (i j : Nat) (m : M (List D)) (m2 : M D) : MS := bnd m fun ds => bnd m2 fun d => fun s => .ok .nx ⟨(s.env.set i (some (.own ds))).set j (some (.val d)), s.cells⟩
def mParR (i j : Nat) (m : M D) (m2 : M (List D)) : MS := bnd m fun d => bnd m2 fun ds => fun s => .ok .nx ⟨(s.env.set i (some (.val d))).set j (some (.own ds)), s.cells⟩
theorem postx_lend {c : Ct} {B : Bs} {e : Exc} {s : S} {w : Wd} {a : Addr} {u : HO} (h : PostX c B W e s w) (hB : B.T a ≠ some .priv) : PostX c (B.lend a u) W e s ⟨w.F, w.m, lendT w.T a⟩ := fun cls d σ' H' w' l S r =>
  h cls d σ' H' ⟨w'.F, w'.m, freeT w'.T a⟩ l (S.unlend hB) r
theorem ds_parL {i j : Nat} {x y : Str} {a b : Expr} {m : M (List D)} {m2 : M D} {px py pt pos : Pos} {kt k2 pt2} (h : DF X W a m) (h2 : DE X W b m2) (hN : X.N.Nodup) (hw : swappedStores [.Tuple [.Name x px, .Name y py] kt pt] (.Tuple [a, b] k2 pt2) X.env = pure (some [x, y]) := by rfl)
    (hi : X.N[i]? = some x := by rfl) (hj : X.N[j]? = some y := by rfl) (hij : i ≠ j := by decide) (hx : X.env.scope.names.lookup x = some .local := by rfl) (hy : X.env.scope.names.lookup y = some .local := by rfl) (hc : X.calm = true := by rfl)
    (hs : swapsWithSole [.Tuple [.Name x px, .Name y py] kt pt] (.Tuple [a, b] k2 pt2) pos.line X.env = pure false := by rfl)
    (hs1 : starEach [a, b] X.env = (false, eval a X.env) :: starEach [b] X.env := by rfl) (hs2 : starEach [b] X.env = (false, eval b X.env) :: starEach [] X.env := by rfl) :
    DS X W (.Assign [.Tuple [.Name x px, .Name y py] kt pt] (.Tuple [a, b] k2 pt2) pos) (mParL i j m m2) := by
  obtain ⟨t, ht, kt'⟩ := h
  obtain ⟨u, hu, ku⟩ := h2
  refine ds_of (ps_par hc hN hi hj hij hx hy (pa_cons ht (pa_cons hu pa_nil hs2) hs1) hw hs) fun B s σ H w D S p => kt' B s σ H w _ S (postsF p fun ds s1 v1 H1 w1 _ l1 S1 r1 p1 => ?_)
  obtain ⟨a1, xs, e1, h1, h2', h3, r⟩ := r1
  subst e1
  have hB := S1.notPriv h3
  refine ku (B.lend a1 (.lst xs)) s1 σ H1 ⟨w1.F, w1.m, lendT w1.T a1⟩ _ (S1.lend h1 h2' h3) ?_
  unfold bnd at p1
  cases em : m2 s1 with
  | bad => rw [em] at p1; exact p1
  | exc ex s2 => rw [em] at p1; exact postx_lend p1 hB
  | ok d s2 =>
    rw [em] at p1
    intro v2 H2 w2 l2 S2 r2
    obtain ⟨l3, S3, k1, k2', k3⟩ := S2.unlendF hB
    have r3 : RFr (XC X) H2 ⟨w2.F, w2.m, freeT w2.T a1⟩ ds (.ref a1) := ⟨a1, xs, rfl, k1, k2', k3, RepL.mono l2.1 l2.2 _ _ r⟩
    obtain ⟨w4, l4, S4⟩ := r3.own (i := i) S3
    refine ⟨.ref a1, v2, rfl, p1 _ H2 w4 ((show w1.le w2 from l2).trans (l3.trans l4)) (S4.setVal (RepW.le (l3.trans l4) r2))⟩
theorem ds_parR {i j : Nat} {x y : Str} {a b : Expr} {m : M D} {m2 : M (List D)} {px py pt pos : Pos} {kt k2 pt2} (h : DE X W a m) (h2 : DF X W b m2) (hN : X.N.Nodup) (hw : swappedStores [.Tuple [.Name x px, .Name y py] kt pt] (.Tuple [a, b] k2 pt2) X.env = pure (some [x, y]) := by rfl)
    (hi : X.N[i]? = some x := by rfl) (hj : X.N[j]? = some y := by rfl) (hij : i ≠ j := by decide) (hx : X.env.scope.names.lookup x = some .local := by rfl) (hy : X.env.scope.names.lookup y = some .local := by rfl) (hc : X.calm = true := by rfl)
    (hs : swapsWithSole [.Tuple [.Name x px, .Name y py] kt pt] (.Tuple [a, b] k2 pt2) pos.line X.env = pure false := by rfl)
    (hs1 : starEach [a, b] X.env = (false, eval a X.env) :: starEach [b] X.env := by rfl) (hs2 : starEach [b] X.env = (false, eval b X.env) :: starEach [] X.env := by rfl) :
    DS X W (.Assign [.Tuple [.Name x px, .Name y py] kt pt] (.Tuple [a, b] k2 pt2) pos) (mParR i j m m2) := by
  obtain ⟨t, ht, kt'⟩ := h
  obtain ⟨u, hu, ku⟩ := h2
  refine ds_of (ps_par hc hN hi hj hij hx hy (pa_cons ht (pa_cons hu pa_nil hs2) hs1) hw hs) fun B s σ H w D S p => kt' B s σ H w _ S (posts_bnd p fun d s1 v1 H1 w1 _ l1 S1 r1 p1 => ?_)
  refine ku B s1 σ H1 w1 _ S1 (postsF p1 fun ds s2 v2 H2 w2 _ l2 S2 r2 p2 => ?_)
  have S3 := S2.setVal (i := i) (RepW.le l2 r1)
  obtain ⟨a1, xs, e1, h1, h2', h3, r⟩ := r2
  have r3 : RFr (XC X) H2 w2 ds v2 := ⟨a1, xs, e1, h1, h2', h3, r⟩
  obtain ⟨w4, l4, S4⟩ := r3.own (i := j) S3
  exact ⟨v1, v2, rfl, p2 _ H2 w4 l4 S4⟩
end
end DM
set_option Elab.async false
set_option linter.all false
set_option maxRecDepth 100000
set_option maxHeartbeats 1000000
namespace DM
open PySem PySem.Spec PyProof.Rows L2
def putFD (f : Str) (v : D) : List (Str × D) → List (Str × D)
  | [] => [(f, v)]
  | (g, x) :: r => if g = f then (g, v) :: r else (g, x) :: putFD f v r
theorem RepF.put {c : Ct} {F : Hp} {m : List Addr} {f : Str} {d : D} {x : V} (h : Rep c F m d x) : ∀ {fs : List (Str × D)} {xs : List (Str × V)}, RepF c F m fs xs → RepF c F m (putFD f d fs) (putF f x xs)
  | [], _, r => by
    have e : _ = [] := r
    subst e
    exact ⟨x, [], rfl, h, rfl⟩
  | (g, e) :: r, _, ⟨y, ys, q, hy, hr⟩ => by
    subst q
    unfold putFD putF
    by_cases hg : g = f
    · rw [if_pos hg, if_pos hg]
      exact ⟨x, ys, rfl, h, hr⟩
    · rw [if_neg hg, if_neg hg]
      exact ⟨y, _, rfl, hy, RepF.put h hr⟩
theorem RepF.length {c : Ct} {F : Hp} {m : List Addr} : ∀ {fs : List (Str × D)} {xs : List (Str × V)}, RepF c F m fs xs → fs.length = xs.length
  | [], xs, h => by rw [show xs = [] from h] <;> rfl
  | (_, _) :: ds, _, ⟨y, ys, e, _, r⟩ => by rw [e, List.length_cons, List.length_cons, RepF.length r]
def mSelf (cn : Str) (i : Nat) (f : Str) (m : M D) : MS := bnd m fun d => fun s => match s.env[i]? with
  | some (some (.ownI n fs)) => if (decide (n = cn) && Nat.blt fs.length 900) then .ok .nx ⟨s.env.set i (some (.ownI n (putFD f d fs))), s.cells⟩ else .bad
  | _ => .bad
section
variable {X : Cx} {W : WX}
theorem ds_self (i : Nat) {x f : Str} {cn : Str} {C : Addr} {e : Expr} {m : M D} {p p' pos : Pos} (h : DE X W e m) (hm : X.mg cn = some (.ref C)) (hc : Cls X.K C) (hno : NoAttr X.K C f)
    (hN : X.N[i]? = some x := by rfl) (hv : Vis X.env.scope x := by first | exact Or.inl rfl | exact Or.inr (Or.inl rfl) | exact Or.inr (Or.inr rfl)) (hd : (x == ("__debug__" : Str)) = false := by decide) (hcd : (x == ("__classdict__" : Str)) = false := by decide)
    (hs : swapsWith e (some (.Attribute (.Name x p) f p')) pos.line X.env = pure false := by rfl) : DS X W (.Assign [.Attribute (.Name x p) f p'] e pos) (mSelf cn i f m) := by
  obtain ⟨t, ht, k⟩ := h
  refine ds_of (ps_fld (pv_at i hN hv hd hcd) ht hs) fun B s σ H w D S p => k B s σ H w _ S (posts_bnd p fun d s1 y H1 w1 e1 l1 S1 r1 p1 => ?_)
  split at p1
  · rename_i n fs en
    split at p1
    · rename_i hz
      rw [Bool.and_eq_true] at hz
      have hn : n = cn := of_decide_eq_true hz.1
      subst hn
      obtain ⟨z, hz1, a, C', dx, xs, e3, e4, e5, e6, e7, e8, r⟩ := S1.sl i _ en
      have e4' : X.mg n = some (.ref C') := e4
      rw [hm] at e4'
      cases e4'
      have hl := r.length
      refine ⟨z, hz1, a, C, dx, xs, e3, e6, hc, hno, by have := Nat.le_of_ble_eq_true hz.2; omega, ?_⟩
      have hne : dx ≠ a := fun e => by rw [e, e6] at e8; cases e8
      refine p1 σ _ w1 (Wd.le.refl w1) (S1.mutOwn hz1 e5 ⟨a, C, dx, _, e3, e4, e5, upd_same, e7, by rw [upd_ne hne]; exact e8, RepF.put r1 r⟩ fun cn fs' _ => S1.me i n fs z en hz1)
    · exact p1.elim
  · exact p1.elim
end
def PostRI (c : Ct) (T0 : Addr → Option Tag) (H0 : Hp) (E : XK) (x : Addr) (r : RRes) (w : Wd) (Q : VK) : Prop :=
  match r with
  | .ok d cells => ∀ H' w', w.le w' → CellsOk c cells H' w' → Frame T0 H0 w'.T H' → RepW c w' d (.ref x) → Q .non H'
  | .exc e cells => ∀ cls dd H' w', w.le w' → CellsOk c cells H' w' → Frame T0 H0 w'.T H' → ExcOk c H' w' e cls dd → E cls dd H'
  | .bad => False
def spDI (c : Ct) (cn : Str) (n : Nat) (F : Fn) : Sp := fun vs H Q E => vs.length = n ∧ ∃ x dx C args ds cells w, vs = .ref x :: args ∧ c.mg cn = some (.ref C) ∧ H x = some (.ins C dx []) ∧ H dx = some (.own x) ∧
  w.F x = none ∧ w.T x = none ∧ w.F dx = none ∧ w.T dx = none ∧ RepWL c w ds args ∧ CellsOk c cells H w ∧ PostRI c w.T H E x (F ds cells) w Q
def runInit (n : Nat) (cn : Str) (body : MS) : Fn := fun ds cells => match body ⟨some (.ownI cn []) :: (ds.map (fun d => some (.val d)) ++ List.replicate (n - 1 - ds.length) none), cells⟩ with
  | .ok .nx s => (match s.env[(0 : Nat)]? with
    | some (some (.ownI c fs)) => .ok (.ins c fs) s.cells
    | _ => .bad)
  | .exc e s => .exc e s.cells
  | _ => .bad
section
variable {P : Program} {w0 : World} {K : PySem.W.Frag} {mg : Str → Option Value} {base : Heap}
theorem fnInit {y qual : Str} {st : Stmt} {f : Addr} {fd : FuncData} {N ps : List Str} {cn : Str} {k : Nat} {body : MS} (F : Fun K y qual st f fd) (S : FnScope N ps (defScope st)) (hps : ps.length ≤ N.length)
    (h : ∀ (cdv : Value) (A : Around) (outer : List Env) (s : Shared) (H : Hp) (E : XK), RG k (A.deeper (envOfC qual (defScope st) s.heap.objs.size f cdv)) →
      Takes (cxOf (L2.CX P w0) P w0 K mg base N qual (defScope st) f cdv A outer s H E) (fun cls d _ H => E cls d H) →
      PassesOwn (model P w0) (A.deeper (envOfC qual (defScope st) s.heap.objs.size f cdv)) (envOfC qual (defScope st) s.heap.objs.size f cdv) (cxOf (L2.CX P w0) P w0 K mg base N qual (defScope st) f cdv A outer s H E).xe →
      DSs (cxOf (L2.CX P w0) P w0 K mg base N qual (defScope st) f cdv A outer s H E) (fun cls d _ H => E cls d H) (defBody st) body) :
    FnG P w0 K mg base (k + 1) f fd ps (spDI ⟨K, mg, none⟩ cn ps.length (runInit N.length cn body)) := by
  refine funG F S (fun vs H Q E q => q.1) fun cdv A outer s H vs Q E hr q => ?_
  obtain ⟨hl, x, dx, C, args, ds, cells, w, rfl, hC, hx, hdx, f1, f2, f3, f4, r, co, post⟩ := q
  obtain ⟨t, ht, kt⟩ := h cdv A outer s H E hr (takes_of rfl rfl rfl rfl) (passes_of rfl)
  have hne : dx ≠ x := fun e => by rw [e, hx] at hdx; cases hdx
  have l0 : w.le ⟨w.F, w.m, fun b => if b = x then some (.slot 0) else if b = dx then some (.slot 0) else w.T b⟩ := le_T
  have tx : (fun b => if b = x then some (Tag.slot 0) else if b = dx then some (.slot 0) else w.T b) x = some (.slot 0) := if_pos rfl
  have tdx : (fun b => if b = x then some (Tag.slot 0) else if b = dx then some (.slot 0) else w.T b) dx = some (.slot 0) := by show (if dx = x then _ else if dx = dx then _ else _) = _; rw [if_neg hne, if_pos rfl]
  have told : ∀ b u, w.T b = some u → (if b = x then some (Tag.slot 0) else if b = dx then some (.slot 0) else w.T b) = some u := fun b u k1 => by
    rw [if_neg (fun e => by rw [e, f2] at k1; cases k1), if_neg (fun e => by rw [e, f4] at k1; cases k1)]
    exact k1
  have hlen := r.length
  have hps1 : args.length + 1 = ps.length := hl
  have S0 : Sim ⟨K, mg, none⟩ ⟨w.T, H, some (.ref x)⟩ ⟨some (.ownI cn []) :: (ds.map (fun d => some (.val d)) ++ List.replicate (N.length - 1 - ds.length) none), cells⟩ (L2.start N (.ref x :: args)) H
      ⟨w.F, w.m, fun b => if b = x then some (.slot 0) else if b = dx then some (.slot 0) else w.T b⟩ := by
    refine ⟨⟨co.sub, fun b u e => ?_, co.len, fun n cl e => ?_⟩, ?_, fun i u e => ?_, fun b hb => ⟨told b _ hb, rfl⟩, fun i cn' fs y e ey => ?_⟩
    · have e' : (if b = x then some (Tag.slot 0) else if b = dx then some (.slot 0) else w.T b) = some u := e
      by_cases hb : b = x
      · rw [hb]; exact ⟨f1, by rw [hx]; intro q; cases q⟩
      · rw [if_neg hb] at e'
        by_cases hb2 : b = dx
        · rw [hb2]; exact ⟨f3, by rw [hdx]; intro q; cases q⟩
        · rw [if_neg hb2] at e'; exact co.tg b u e'
    · obtain ⟨a, k1, k2, k3⟩ := co.at_ n cl e
      exact ⟨a, k1, told a _ k2, CellOk.mono (w' := ⟨w.F, w.m, fun b => if b = x then some (.slot 0) else if b = dx then some (.slot 0) else w.T b⟩) (fun u b o _ j1 j2 => ⟨told b u j1, j2⟩) l0 k2 k3⟩
    · unfold L2.start
      simp only [List.length_append, List.length_map, List.length_replicate, List.length_cons]
      omega
    · cases i with
      | zero =>
        cases e
        exact ⟨.ref x, rfl, x, C, dx, [], rfl, hC, tx, hx, tdx, hdx, rfl⟩
      | succ i =>
        have e' : (ds.map (fun d => some (Slot.val d)) ++ List.replicate (N.length - 1 - ds.length) none)[i]? = some (some u) := e
        by_cases hi : i < ds.length
        · rw [List.getElem?_append_left (by simpa using hi), List.getElem?_map] at e'
          cases q : ds[i]? with
          | none => rw [q] at e'; cases e'
          | some d =>
            rw [q] at e'
            cases e'
            obtain ⟨y, hy, ry⟩ := r.get q
            refine ⟨y, ?_, RepW.le l0 ry⟩
            unfold L2.start
            rw [List.getElem?_append_left (by rw [List.length_map, List.length_cons, ← hlen]; omega), List.getElem?_map, List.getElem?_cons_succ, hy] <;> rfl
        · rw [List.getElem?_append_right (by simpa using hi), List.getElem?_replicate] at e'
          split at e' <;> cases e'
    · cases i with
      | zero =>
        have e1 : (L2.start N (V.ref x :: args))[0]? = some (some (.ref x)) := rfl
        rw [e1] at ey
        cases ey
        rfl
      | succ i =>
        have e' : (ds.map (fun d => some (Slot.val d)) ++ List.replicate (N.length - 1 - ds.length) none)[i]? = some (some (.ownI cn' fs)) := e
        have m1 := List.mem_of_getElem? e'
        rcases List.mem_append.mp m1 with m1 | m1
        · obtain ⟨_, _, q⟩ := List.mem_map.mp m1
          cases q
        · cases (List.mem_replicate.mp m1).2
  refine ⟨t, ht, kt ⟨w.T, H, some (.ref x)⟩ _ _ H _ _ S0 ?_⟩
  unfold runInit at post
  have up : ∀ {w'}, Wd.le ⟨w.F, w.m, fun b => if b = x then some (.slot 0) else if b = dx then some (.slot 0) else w.T b⟩ w' → w.le w' := fun l => Wd.le.trans l0 l
  cases e : body ⟨some (.ownI cn []) :: (ds.map (fun d => some (.val d)) ++ List.replicate (N.length - 1 - ds.length) none), cells⟩ with
  | ok fl s1 =>
    rw [e] at post
    cases fl with
    | nx =>
      dsimp only at post
      intro σ' H' w' l S1
      split at post
      · rename_i c2 fs e0
        obtain ⟨y, hy, a, C', dx', xs, e3, e4, e5, e6, e7, e8, rf⟩ := S1.sl 0 _ e0
        have hme := S1.me 0 c2 fs y e0 hy
        cases hme
        cases e3
        -- the instance is frozen
        have F1 := (S1.co.tg x _ e5).1
        have F2 := (S1.co.tg dx' _ e7).1
        have ne2 : dx' ≠ x := fun q => by rw [q, e6] at e8; cases e8
        let w2 : Wd := ⟨upd (upd w'.F dx' (.own x)) x (.ins C' dx' xs), w'.m, fun b => if b = x then none else if b = dx' then none else w'.T b⟩
        have l2 : w'.le w2 := ⟨fun b v ev => .inl (by
          show upd (upd w'.F dx' (.own x)) x (.ins C' dx' xs) b = some v
          rw [upd_ne (ne_of_none ev F1), upd_ne (ne_of_none ev F2)]
          exact ev), List.prefix_refl _⟩
        have keepT : ∀ b u, w'.T b = some u → u ≠ .slot 0 → w2.T b = some u := fun b u j1 j2 => by
          show (if b = x then none else if b = dx' then none else w'.T b) = some u
          rw [if_neg (fun q => by rw [q, e5] at j1; cases j1; exact j2 rfl), if_neg (fun q => by rw [q, e7] at j1; cases j1; exact j2 rfl)]
          exact j1
        have co2 : CellsOk ⟨K, mg, none⟩ s1.cells H' w2 := by
          refine ⟨fun b v ev => ?_, fun b u eu => ?_, S1.co.len, fun n cl ec => ?_⟩
          · have ev' : upd (upd w'.F dx' (.own x)) x (.ins C' dx' xs) b = some v := ev
            by_cases hb : b = x
            · rw [hb, upd_same] at ev'; rw [hb]; exact .inl (e6.trans ev')
            · rw [upd_ne hb] at ev'
              by_cases hb2 : b = dx'
              · rw [hb2, upd_same] at ev'; rw [hb2]; exact .inl (e8.trans ev')
              · rw [upd_ne hb2] at ev'; exact S1.co.sub b v ev'
          · have eu' : (if b = x then none else if b = dx' then none else w'.T b) = some u := eu
            by_cases hb : b = x
            · rw [if_pos hb] at eu'; cases eu'
            · rw [if_neg hb] at eu'
              by_cases hb2 : b = dx'
              · rw [if_pos hb2] at eu'; cases eu'
              · rw [if_neg hb2] at eu'
                refine ⟨?_, (S1.co.tg b u eu').2⟩
                show upd (upd w'.F dx' (.own x)) x (.ins C' dx' xs) b = none
                rw [upd_ne hb, upd_ne hb2]
                exact (S1.co.tg b u eu').1
          · obtain ⟨a, k1, k2, k3⟩ := S1.co.at_ n cl ec
            refine ⟨a, k1, keepT a _ k2 (fun q => nomatch q), CellOk.mono (w' := w2) (fun u b o hu j1 j2 => ⟨keepT b u j1 (fun q => by subst q; exact hu), j2⟩) l2 k2 k3⟩
        refine post H' w2 ((up l).trans l2) co2 (fun b hb => ?_) ⟨x, C', dx', xs, rfl, e4, upd_same, ?_, RepF.mono l2.1 l2.2 _ _ rf⟩
        · obtain ⟨k1, k2⟩ := S1.fr b hb
          exact ⟨keepT b _ k1 (fun q => nomatch q), k2⟩
        · show upd (upd w'.F dx' (.own x)) x (.ins C' dx' xs) dx' = _
          rw [upd_ne ne2, upd_same]
      · exact post.elim
    | rt d => exact post.elim
    | bk => exact post.elim
    | ct => exact post.elim
  | exc ex s1 =>
    rw [e] at post
    exact fun cls d σ' H' w' l S1 r1 => post cls d H' w' (up l) S1.co S1.fr r1
  | bad => rw [e] at post; exact post.elim
end
end DM
set_option Elab.async false
set_option linter.all false
set_option maxRecDepth 100000
set_option maxHeartbeats 1000000
namespace DM
open PySem PySem.Spec PyProof.Rows L2
def tMakeS (C : Addr) (sp : Sp) (E : L2.St → XK) (t : TA) : TE := fun σ H Q => t σ H fun vs H1 => ∀ x dx, H1 x = none → H1 dx = none → dx ≠ x → sp (.ref x :: vs) (upd (upd H1 dx (.own x)) x (.ins C dx [])) (fun v H2 => v = .non ∧ Q (.ref x) H2) (E σ)
section
variable {X : Cx} {k : Nat} {f C : Addr} {fd : FuncData} {ps : List Str} {sp : Sp} {E : L2.St → XK} {x : Str} {p pos : Pos} {e : Expr} {es : List Expr} {t : TA}
theorem make_at {pins : List (Addr × Obj)} {σ : L2.St} {H : Hp} {s : Shared} {Q : VK} {us : List Value} {vs : List V} (Mc : Mk X.K C f) (F : FnG X.prog X.w X.K X.mg X.base k f fd ps sp) (hr : RG (k + 1) X.A) (hb : Binds X.K fd ps [])
    (hx : PassesAt (L2.CX X.prog X.w) X σ (E σ)) (I : Inv X pins σ H s) (r : Vals vs us)
    (h : ∀ x dx, H x = none → H dx = none → dx ≠ x → sp (.ref x :: vs) (upd (upd H dx (.own x)) x (.ins C dx [])) (fun v H2 => v = .non ∧ Q (.ref x) H2) (E σ)) :
    wpAny (model X.prog X.w) X.A (call (.ref C) us) (EP X pins σ Q) X.xe s := by
  have wish := h (s.heap.objs.size + 1) s.heap.objs.size (I.hok.fresh (Nat.le_succ _)) (I.hok.fresh (Nat.le_refl _)) (Nat.ne_of_lt (Nat.lt_succ_self _))
  have Im := Inv.made (C := C) I
  have rm : Vals (V.ref (s.heap.objs.size + 1) :: vs) (Value.ref (s.heap.objs.size + 1) :: us) := .cons rfl r
  have hl : (Value.ref (s.heap.objs.size + 1) :: us).length = ps.length := by rw [← rm.length]; exact F.len _ _ _ _ wish
  have bd := hb _ (Value.ref (s.heap.objs.size + 1) :: us) Im.kIn (by rw [List.append_nil]; exact hl)
  rw [List.append_nil] at bd
  refine wpAny_call (make_map (f := f) I.kIn Mc.makes Mc.init (beq_iff_eq.mp Mc.fn) (codeAny_mono (F.run _ X.stack _ _ ⟨Value.ref (s.heap.objs.size + 1) :: us, []⟩ _ _ _ (E σ) (hr.make C us []) (Im.env0.make C us []) bd rm wish) fun r s' back => ?_))
  cases r with
  | error er => exact hx pins _ _ er s' Im back
  | ok fl =>
    cases fl with
    | ret u =>
      obtain ⟨v, H', I3, rv, ev, q3⟩ := Im.after back
      subst ev
      exact ⟨rv, ⟨V.ref (s.heap.objs.size + 1), H', I3, rfl, q3⟩⟩
    | next => exact False.elim back
    | brk => exact False.elim back
    | cont => exact False.elim back
theorem pe_makeS (Mc : Mk X.K C f) (F : FnG X.prog X.w X.K X.mg X.base k f fd ps sp) (hr : RG (k + 1) X.A) (hg : Gl X x) (hm : X.mg x = some (.ref C)) (hb : Binds X.K fd ps []) (hx : ∀ σ, PassesAt (L2.CX X.prog X.w) X σ (E σ))
    (ha : PA X (e :: es) t) (hdb : (x == ("__debug__" : Str)) = false := by decide) (he : starEach (e :: es) X.env = (false, eval e X.env) :: starEach es X.env := by rfl) (hpl : (backTo pos (starEach es X.env)).any (·.1) = false := by rfl) :
    PE X (.Call (.Name x p) (e :: es) [] pos) (tMakeS C sp E t) := by
  refine ⟨fun pins s σ H Q I h => wpAny_Call_Name_kw (ld_glob I hg hm ?_ hdb)⟩
  refine PySem.W.callWith_K (h₀ := X.base) I.ok.mod.kin Mc.kp (thn (ha.run pos pins s σ H _ I h) fun us s1 hh => ?_) he hpl
  obtain ⟨vs, H1, I1, r, q⟩ := hh
  exact ⟨I1.kIn, make_at Mc F hr hb (hx σ) I1 r q⟩
end
section
variable {X : Cx} {W : WX}
theorem de_make {k : Nat} {f C : Addr} {fd : FuncData} {ps : List Str} {F : Fn} {x : Str} {e : Expr} {es : List Expr} {m : M (List D)} {p pos : Pos} (Mc : Mk X.K C f) (hF : FnG X.prog X.w X.K X.mg X.base k f fd ps (spDI ⟨X.K, X.mg, none⟩ x ps.length F)) (hr : RG (k + 1) X.A) (hm : X.mg x = some (.ref C))
    (hb : Binds X.K fd ps []) (tk : Takes X W) (ha : DA X W (e :: es) m) (hps : ps.length = (e :: es).length + 1) (hm2 : ∀ s d s', m s = .ok d s' → d.length = (e :: es).length) (hc : X.calm = true := by rfl) (hg : Gl X x := by rfl) (hdb : (x == ("__debug__" : Str)) = false := by decide)
    (he : starEach (e :: es) X.env = (false, eval e X.env) :: starEach es X.env := by rfl) (hpl : (backTo pos (starEach es X.env)).any (·.1) = false := by rfl) : DE X W (.Call (.Name x p) (e :: es) [] pos) (mCall F m) := by
  obtain ⟨t, ht, kt⟩ := ha
  refine de_of (pe_makeS (E := WE W) Mc hF hr hg hm hb (passAt tk) ht hdb he hpl) fun B s σ H w Q S p => kt B s σ H w _ S (post_bnd p fun ds s1 vs H1 w1 e1 l1 S1 r1 p1 => ?_)
  intro y dx hy hdx hne
  rw [xc_calm hc] at S1 r1 p1
  have Sa := S1.new (o := .own y) hdx
  have hy2 : upd H1 dx (.own y) y = none := by rw [upd_ne (Ne.symm hne)]; exact hy
  have Sb := Sa.new (o := .ins C dx []) hy2
  refine ⟨?_, y, dx, C, vs, ds, s1.cells, ⟨w1.F, w1.m, toPriv w1.T⟩, rfl, hm, upd_same, by rw [upd_ne hne, upd_same], S1.free_F hy, ?_, S1.free_F hdx, ?_, r1, Sb.co.priv, ?_⟩
  · show vs.length + 1 = ps.length
    rw [hps, ← r1.length, hm2 s ds s1 e1]
  · show toPriv w1.T y = none
    unfold toPriv
    rw [S1.free_T hy]
  · show toPriv w1.T dx = none
    unfold toPriv
    rw [S1.free_T hdx]
  · have p2 : Post ⟨X.K, X.mg, none⟩ B W (RepW ⟨X.K, X.mg, none⟩) (match F ds s1.cells with
      | .ok d cells => .ok d ⟨s1.env, cells⟩
      | .exc e cells => .exc e ⟨s1.env, cells⟩
      | .bad => .bad) σ w1 Q := p1
    cases ef : F ds s1.cells with
    | ok d cells =>
      rw [ef] at p2
      intro H' w' l co fr rx
      obtain ⟨l2, S2⟩ := Sb.back l co fr
      exact ⟨rfl, p2 (.ref y) H' _ l2 S2 rx⟩
    | exc ex cells =>
      rw [ef] at p2
      intro cls dd H' w' l co fr rx
      obtain ⟨l2, S2⟩ := Sb.back l co fr
      exact p2 cls dd σ H' _ l2 S2 rx
    | bad => rw [ef] at p2; exact p2
end
end DM
set_option Elab.async false
set_option linter.all false
set_option maxRecDepth 100000
set_option maxHeartbeats 3200000
namespace DM
open PySem PySem.Spec PyProof.Rows L2
def noSet (w : World) : Obj := { cls := .type "set", dict := none, data := .set #[] 0 (.fresh 0 0 (!w.params.followText "set-order")) }
section
variable {P : Program} {w : World} {A : Around} {E : Value → Shared → Prop} {sh : Shared}
theorem set_fill {a : Addr} {its : Array Value} {ks : List Int} {Q : Value → Shared → Prop} (hA : A.in1.in1.in1.handled = none) (ha : sh.heap.IsList a its) (hk : IntsAre its.toList ks) (room : ks.length + 1 < scanBound)
    (fin : ∀ (h2 : Heap) (tk c : Nat), SetR w h2 sh.heap.objs.size (fun j => decide (j ∈ ks)) c → c ≤ ks.length → (∀ b o, sh.heap.get? b = some o → h2.get? b = some o) → Q .none { sh with heap := h2, toks := tk }) :
    codeAny (model P w) A.in1 (.call (.builtin "set.__init__") ⟨[.ref sh.heap.objs.size, .ref a], []⟩) (wants Q E) { sh with heap := sh.heap.push (noSet w) } := by
  have sizes : its.size = ks.length := (Array.length_toList (xs := its)).symm.trans (IntsAre.length hk)
  have born : (sh.heap.push (noSet w)).get? sh.heap.objs.size = some (noSet w) := Heap.get?_push_size _ rfl
  have isSet : Shared.TypeIs { sh with heap := sh.heap.push (noSet w) } (.ref sh.heap.objs.size) "set" := ⟨_, born, rfl⟩
  refine codeAny_call_builtin F.called_set.init.plain F.entry_set_init (check_set_init_1 isSet ?_)
  obtain ⟨ol, hol, hcl, nl, hdl⟩ := ha
  obtain ⟨cl, di, da, sl⟩ := ol
  dsimp only at hcl hdl
  subst hcl hdl
  have below : a < sh.heap.objs.size := Heap.lt_size hol
  have there : (sh.heap.push (noSet w)).get? a = some { cls := .type "list", dict := di, data := .seq its nl, slots := sl } := Heap.get?_push_of_some _ hol
  have lst : (sh.heap.push (noSet w)).IsList a its := ⟨_, there, rfl, nl, rfl⟩
  have noset := F.sub_list_set
  have nofrozen := F.sub_list_frozenset
  have nodict : (Value.type "list" == Value.type "dict") = false := by decide
  unfold Builtin.«set.__init__» noKeywords Builtin.Frozenset.updateFrom
  generalize hPI : pyIter = PI
  wp_walk
  subst hPI
  refine wpAny_pyIter_list lst (wpAny_bind (wpAny_runValue ?_))
  have grown : (sh.heap.push (noSet w)).objs.size = sh.heap.objs.size + 1 := Heap.size_push ..
  have apart : a ≠ (sh.heap.push (noSet w)).objs.size := by rw [grown]; exact Nat.ne_of_lt (Nat.lt_succ_of_lt below)
  have own : sh.heap.objs.size ∉ [(sh.heap.push (noSet w)).objs.size, a] := fun m => by
    rcases List.mem_cons.mp m with z | z
    · rw [grown] at z; exact Nat.ne_of_lt (Nat.lt_succ_self _) z
    · rw [List.mem_singleton.mp z] at below; exact Nat.lt_irrefl _ below
  have vals : ∀ (i : Nat) (v : Value), its[i]? = some v → ∃ k t, ks[i]? = some k ∧ v = .int k t := fun i v hv => by
    obtain ⟨t, e⟩ := PyProof.Rows.IntsAre.int_at hk i v (by rw [Array.getElem?_toList]; exact hv)
    have hi : i < ks.length := by rw [← sizes]; exact (Array.getElem?_eq_some_iff.mp hv).1
    refine ⟨ks[i], t, List.getElem?_eq_getElem hi, ?_⟩
    rw [e, List.getD_eq_getElem?_getD, List.getElem?_eq_getElem hi] <;> rfl
  refine set_update_ints ((Walks.list hA _ a apart its).toS) sh.heap.objs.size own ks sizes room vals (its.size - 0) 0 _ (by omega) (Nat.zero_le _) ⟨⟨_, Heap.get?_push_size _ rfl, rfl, rfl⟩, lst.push _⟩ ⟨0, Nat.le_refl 0, setR_new_at (Heap.get?_push_of_some _ born)⟩ fun s2 c2 mv le R2 => ?_
  obtain ⟨h2, g2, d2, t2, o2⟩ := s2
  have eg : g2 = sh.gens := mv.gens
  have ed : d2 = sh.drawn := mv.drawn
  have eo : o2 = sh.os := mv.os
  subst eg ed eo
  show wpAny _ _ _ _ _ _
  refine wpAny_pure ?_
  show wpAny _ _ (PySem.ret Value.none) _ _ _
  rw [sizes] at le
  refine wpAny_pure (fin h2 t2 c2 R2 le fun b o e => ?_)
  have hb : b < sh.heap.objs.size := Heap.lt_size e
  refine mv.heap b o (fun m => ?_) (Heap.get?_push_of_some _ (Heap.get?_push_of_some _ e))
  rcases List.mem_cons.mp m with z | z
  · rw [z] at hb; exact Nat.lt_irrefl _ hb
  · have z' := List.mem_singleton.mp z
    rw [z', grown] at hb; exact Nat.lt_irrefl _ (Nat.lt_of_lt_of_le hb (Nat.le_succ _))
theorem set_of_list {a : Addr} {its : Array Value} {ks : List Int} {Q : Value → Shared → Prop} (hA : A.handled = none) (ha : sh.heap.IsList a its) (hk : IntsAre its.toList ks) (room : ks.length + 1 < scanBound)
    (fin : ∀ (h2 : Heap) (tk c : Nat), SetR w h2 sh.heap.objs.size (fun j => decide (j ∈ ks)) c → c ≤ ks.length → (∀ b o, sh.heap.get? b = some o → h2.get? b = some o) → Q (.ref sh.heap.objs.size) { sh with heap := h2, toks := tk }) :
    wpAny (model P w) A (call (.type "set") [.ref a]) Q E sh := by
  obtain ⟨c0, tl0, hmro⟩ := F.called_set.mro
  have hmade := F.called_set.made
  have hsub := F.called_set.sub
  have h1 := F.called_set.notType
  have h2 := F.called_set.canCreate
  have hct := F.typeCall_set_1 (.ref a)
  refine wpAny_call (codeAny_of_tree ?_)
  show wpAny _ _ (callAny (.type "set") _) _ _ _
  refine wpAny_pure ⟨Code.quiet_builtin _ (by decide +kernel), codeAny_builtin F.entry_type_call ?_⟩
  rw [Around.under_plain (weight_type_call_type "set" [.ref a] []) rfl]
  repeat (any_goals (first | assumption | wp_step))
  refine codeAny_mono (code_set_led1 (.ref a) (E := E) (Q₁ := fun ob s1 => ob = .ref sh.heap.objs.size ∧ s1 = { sh with heap := sh.heap.push (noSet w) }) ⟨rfl, rfl⟩) fun r s1 hr => ?_
  cases r with
  | error e => exact hr
  | ok fl =>
    cases fl with
    | ret ob =>
      obtain ⟨rfl, rfl⟩ := hr
      have born : (sh.heap.push (noSet w)).get? sh.heap.objs.size = some (noSet w) := Heap.get?_push_size _ rfl
      have isSet : Shared.TypeIs { sh with heap := sh.heap.push (noSet w) } (.ref sh.heap.objs.size) "set" := ⟨_, born, rfl⟩
      have hli := F.called_set.init.lookup
      have hbi := F.called_set.init.bind (.ref sh.heap.objs.size)
      repeat (any_goals (first | assumption | wp_step))
      refine codeAny_mono (set_fill (P := P) (E := E) (Q := fun r s2 => r = .none ∧ ∃ h2 tk c, s2 = { sh with heap := h2, toks := tk } ∧ SetR w h2 sh.heap.objs.size (fun j => decide (j ∈ ks)) c ∧ c ≤ ks.length ∧ ∀ b o, sh.heap.get? b = some o → h2.get? b = some o)
        (by simp [hA]) ha hk room fun h2 tk c R le k => ⟨rfl, h2, tk, c, rfl, R, le, k⟩) fun r2 s2 hr2 => ?_
      cases r2 with
      | error e => exact hr2
      | ok fl2 =>
        cases fl2 with
        | ret r =>
          obtain ⟨rfl, h2', tk, c, rfl, R, le, k⟩ := hr2
          repeat (any_goals (first | assumption | wp_step))
          exact fin _ _ _ R le k
        | _ => exact hr2.elim
    | _ => exact hr.elim
end
end DM
set_option Elab.async false
set_option linter.all false
set_option maxRecDepth 100000
set_option maxHeartbeats 1000000
namespace DM
open PySem PySem.Spec PyProof.Rows L2
theorem usort_nodup (l : List Int) : (usort l).Nodup := List.Pairwise.imp (fun h => Int.ne_of_lt h) (usort_sorted l)
theorem setR_count {w : World} {h : Heap} {a : Addr} {ns : List Int} {c : Nat} (R : SetR w h a (fun j => decide (j ∈ ns)) c) : c = (usort ns).length := by
  obtain ⟨o, es, ep, t, h1, h2, h3, h4, h5, h6, h7, h8, h9, _⟩ := R
  have p : (es.toList.map keyOf).Perm (usort ns) := (List.perm_ext_iff_of_nodup h5 (usort_nodup ns)).mpr fun k => by
    rw [usort_mem, ← h6 k]
    exact ⟨fun q => of_decide_eq_true q, fun q => decide_eq_true q⟩
  rw [← p.length_eq, List.length_map, Array.length_toList, h9]
def rSetI (K : PySem.W.Frag) (w : World) : List V → Hp → VK → Prop := fun xs H Q => ∃ (l : Addr) (ns : List Int), xs = [V.ref l] ∧ (SqL K H l (ns.map V.int) ∨ SqT K H l (ns.map V.int)) ∧ ns.length < 4000 ∧
  ∀ p, H p = none → Q (.ref p) (upd H p (SetO w p (fun j => decide (j ∈ ns)) (usort ns).length))
theorem cr_setI {X : Cx} (hc : X.calm = true) : CallR X (.type "set") (rSetI X.K X.w) := by
  intro pins s σ H xs us Q I r h
  obtain ⟨l, ns, rfl, hs, hz, q⟩ := h
  rw [Vals.ref1 r]
  have room : ns.length + 1 < scanBound := by unfold scanBound; omega
  have fresh : H s.heap.objs.size = none := I.hok.fresh (Nat.le_refl _)
  have last : ∀ (h2 : Heap) (tk c : Nat), SetR X.w h2 s.heap.objs.size (fun j => decide (j ∈ ns)) c → (∀ b o, s.heap.get? b = some o → h2.get? b = some o) → EP X pins σ Q (.ref s.heap.objs.size) { s with heap := h2, toks := tk } := fun h2 tk c R k => by
    rw [setR_count R] at R
    exact ⟨.ref _, _, I.laid (t' := tk) k (Nat.le_refl _) (setO_new R), rfl, q _ fresh⟩
  rcases hs with hs | hs
  · obtain ⟨its, rv, pl, _⟩ := I.list hs
    exact set_of_list (I.ok.hd hc) pl.isList (ints_of_vals (by simpa using rv)) room fun h2 tk c R _ k => last h2 tk c R k
  · obtain ⟨its, rv, pl, _⟩ := I.tuple hs
    exact call_set_tupI ns (I.ok.hd hc) (show s.heap.IsTuple l its.toArray from pl) (ints_of_vals (by simpa using rv)) room fun h2 tk c R _ k => last h2 tk c R k
def ints? : List D → Option (List Int)
  | [.lst xs] => dInts xs
  | [.tup xs] => dInts xs
  | [.scr ns] => some ns
  | _ => none
def fSortedSet : List D → Option (List D) := fun ds => match ints? ds with
  | some ns => if (Nat.blt ns.length 4000 && Nat.blt (usort ns).length 64) then some ((usort ns).map .int) else none
  | none => none
theorem ints_at {c : Ct} {H : Hp} {w : Wd} (s : Sub w.F H) {ds : List D} {ns : List Int} {xs : List V} (h : ints? ds = some ns) (r : PRepL c H w ds xs) : ∃ l, xs = [V.ref l] ∧ (SqL c.K H l (ns.map V.int) ∨ SqT c.K H l (ns.map V.int)) := by
  unfold ints? at h
  split at h
  · have e := dInts_eq h
    subst e
    obtain ⟨x, rfl, a, ys, e1, h1, r1⟩ := one_arg r
    have e3 := repL_ints r1
    subst e3 e1
    exact ⟨a, rfl, .inl (SqL.of h1)⟩
  · have e := dInts_eq h
    subst e
    obtain ⟨x, rfl, a, ys, e1, h1, r1⟩ := one_arg r
    have e3 := repL_ints r1
    subst e3 e1
    exact ⟨a, rfl, .inr (s.sqT h1)⟩
  · cases h
    obtain ⟨x, rfl, a, e1, h1⟩ := one_arg r
    subst e1
    exact ⟨a, rfl, .inl h1⟩
  · cases h
section
variable {X : Cx} {W : WX}
theorem df_sortedSet {e : Expr} {m : M (List D)} {p p2 pos pos2 : Pos} (hm : X.mg "sorted" = none) (hm2 : X.mg "set" = none) (h : DP X W [e] m) (hc : X.calm = true := by rfl) (hg : Gl X "sorted" := by rfl) (hg2 : Gl X "set" := by rfl)
    (he : starEach [e] X.env = (false, eval e X.env) :: starEach [] X.env := by rfl) (hpl2 : (backTo pos2 (starEach [] X.env)).any (·.1) = false := by rfl)
    (he2 : starEach [.Call (.Name "set" p2) [e] [] pos2] X.env = (false, eval (.Call (.Name "set" p2) [e] [] pos2) X.env) :: starEach [] X.env := by rfl) (hpl : (backTo pos (starEach [] X.env)).any (·.1) = false := by rfl) :
    DF X W (.Call (.Name "sorted" p) [.Call (.Name "set" p2) [e] [] pos2] [] pos) (mCallF fSortedSet m) := by
  obtain ⟨t, ht, kt⟩ := h
  refine ⟨_, pe_callB (cr_sortedSet hc) hg hm boot_sorted (pa_cons (pe_callTy (cr_setI hc) hg2 hm2 boot_set ht (by decide) (by decide) he hpl2) pa_nil he2) (by decide) (by decide) he2 hpl, fun B s σ H w Q S p => ?_⟩
  refine kt B s σ H w _ S ?_
  unfold mCallF bnd at p
  cases em : m s with
  | exc ex s1 => rw [em] at p; exact p
  | bad => rw [em] at p; exact p
  | ok ds s1 =>
    rw [em] at p
    intro xs H1 w1 l1 S1 r1
    have p1 : PostF (XC X) B W (match fSortedSet ds with
      | some d => .ok d s1
      | none => .bad) σ w Q := p
    unfold fSortedSet at p1
    cases en : ints? ds with
    | none => simp only [en] at p1; exact p1.elim
    | some ns =>
      simp only [en] at p1
      split at p1
      · rename_i d hd
        split at hd
        · rename_i hz
          cases hd
          rw [Bool.and_eq_true] at hz
          obtain ⟨l, rfl, hs⟩ := ints_at S1.co.sub en r1
          refine ⟨l, ns, rfl, hs, Nat.le_of_ble_eq_true hz.1, fun q hq => ⟨q, _, _, rfl, upd_same, Nat.le_of_ble_eq_true hz.2, fun ns' q' hp hmem hl hq' => ?_⟩⟩
          have e2 : ns' = usort ns := strict_uniq (fun z => by
            rw [hmem z, usort_mem]
            exact ⟨fun q => of_decide_eq_true q, fun q => decide_eq_true q⟩) hp (usort_sorted ns)
          subst e2
          have S2 := S1.new (o := SetO X.w q (fun j => decide (j ∈ ns)) (usort ns).length) hq
          exact p1 (.ref q') _ w1 l1 (S2.new hq') ⟨q', _, rfl, upd_same, S2.free_F hq', S2.free_T hq', ints_repL _⟩
        · cases hd
      · exact p1.elim
end
end DM
set_option Elab.async false
set_option linter.all false
set_option maxRecDepth 100000
set_option maxHeartbeats 1000000
namespace DM
open PySem PySem.Spec PyProof.Rows L2
def keyPy : Key → PyData
  | .inl i => .int i
  | .inr x => .str x
mutual
def toPyX : D → Option PyData
  | .non => some .none
  | .bl b => some (.bool b)
  | .int i => some (.int i)
  | .str x => some (.str x)
  | .lst ds => (toPyXL ds).map .list
  | .tup ds => (toPyXL ds).map .tuple
  | .dicK kvs => (toPyXK kvs).map .dict
  | _ => none
def toPyXL : List D → Option (List PyData)
  | [] => some []
  | d :: ds => match toPyX d, toPyXL ds with
    | some p, some q => some (p :: q)
    | _, _ => none
def toPyXK : List (Key × D) → Option (List (PyData × PyData))
  | [] => some []
  | (k, d) :: ds => match toPyX d, toPyXK ds with
    | some p, some q => some ((keyPy k, p) :: q)
    | _, _ => none
end
theorem toPyX_lst (ds : List D) : toPyX (.lst ds) = (toPyXL ds).map .list := by simp only [toPyX]
theorem toPyX_tup (ds : List D) : toPyX (.tup ds) = (toPyXL ds).map .tuple := by simp only [toPyX]
theorem toPyX_dic (ds : List (Key × D)) : toPyX (.dicK ds) = (toPyXK ds).map .dict := by simp only [toPyX]
theorem toPyXL_cons {d : D} {ds : List D} {ps : List PyData} (h : toPyXL (d :: ds) = some ps) : ∃ p q, toPyX d = some p ∧ toPyXL ds = some q ∧ ps = p :: q := by
  simp only [toPyXL] at h
  split at h
  · rename_i p q h1 h2
    cases h
    exact ⟨p, q, h1, h2, rfl⟩
  · cases h
theorem toPyXK_cons {k : Key} {d : D} {ds : List (Key × D)} {ps : List (PyData × PyData)} (h : toPyXK ((k, d) :: ds) = some ps) : ∃ p q, toPyX d = some p ∧ toPyXK ds = some q ∧ ps = (keyPy k, p) :: q := by
  simp only [toPyXK] at h
  split at h
  · rename_i p q h1 h2
    cases h
    exact ⟨p, q, h1, h2, rfl⟩
  · cases h
structure Shows (P : Program) (w : World) (h : Heap) (u : Value) (p : PyData) : Prop where
  rd : ∃ as, Reads h u p as
  sh : ∃ bs, ReadAtMost h p.depth bs ∧ ReprK P w bs h p.depth u p.shown
structure ShowsL (P : Program) (w : World) (h : Heap) (us : List Value) (ps : List PyData) : Prop where
  rd : ∃ as, ReadsAll h us ps as
  sh : ∃ bs, ReadAtMost h (PyData.depthAll ps) bs ∧ ReprAllK P w bs h (PyData.depthAll ps) us (PyData.shownAll ps)
section
variable {P : Program} {w : World} {h : Heap}
theorem showsL_nil : ShowsL P w h [] [] := ⟨⟨_, .nil⟩, [], (fun _ z => nomatch z), by simp only [PyData.shownAll]; exact .nil⟩
theorem showsL_cons {u : Value} {us : List Value} {p : PyData} {ps : List PyData} (a : Shows P w h u p) (b : ShowsL P w h us ps) : ShowsL P w h (u :: us) (p :: ps) := by
  obtain ⟨a1, r1⟩ := a.rd
  obtain ⟨a2, r2⟩ := b.rd
  obtain ⟨b1, m1, k1⟩ := a.sh
  obtain ⟨b2, m2, k2⟩ := b.sh
  refine ⟨⟨_, .cons r1 r2⟩, b1 ++ b2, ?_, ?_⟩
  · simp only [PyData.depthAll]
    exact (m1.mono (Nat.le_max_left _ _)).append (m2.mono (Nat.le_max_right _ _))
  · simp only [PyData.depthAll, PyData.shownAll]
    exact .cons ((k1.more fun b hb => List.mem_append_left _ hb).level_le (Nat.le_max_left _ _)) (k2.more_le (fun b hb => List.mem_append_right _ hb) (Nat.le_max_right _ _))
theorem shows_tup {a : Addr} {o : Obj} {its : Array Value} {n : Nat} {ps : List PyData} (h1 : h.get? a = some o) (h2 : o.cls = .type "tuple") (h3 : o.data = .seq its n) (b : ShowsL P w h its.toList ps) : Shows P w h (.ref a) (.tuple ps) := by
  obtain ⟨as, r⟩ := b.rd
  obtain ⟨bs, m, k⟩ := b.sh
  have rr : Reads h (.ref a) (.tuple ps) as := .tuple h1 h2 h3 r
  have na : a ∉ bs := not_mem_of_deeper rr (by simp only [PyData.depth]; omega) m
  refine ⟨⟨_, rr⟩, a :: bs, ReadAtMost.cons rr (by simp only [PyData.depth]; omega) m, ?_⟩
  simp only [PyData.depth, PyData.shown]
  exact ReprK.tuple h1 h2 h3 na k
theorem shows_lst {a : Addr} {o : Obj} {its : List Value} {n : Nat} {ps : List PyData} (h1 : h.get? a = some o) (h2 : o.cls = .type "list") (h3 : o.data = .seq its.toArray n) (b : ShowsL P w h its ps) : Shows P w h (.ref a) (.list ps) := by
  obtain ⟨as, r⟩ := b.rd
  obtain ⟨bs, m, k⟩ := b.sh
  have rr : Reads h (.ref a) (.list ps) (a :: as) := .list h1 h2 h3 (by simpa using r)
  have na : a ∉ bs := not_mem_of_deeper rr (by simp only [PyData.depth]; omega) m
  refine ⟨⟨_, rr⟩, a :: bs, ReadAtMost.cons rr (by simp only [PyData.depth]; omega) m, ?_⟩
  simp only [PyData.depth, PyData.shown]
  cases its with
  | nil =>
    have r' : ReadsAll h [] ps _ := r
    cases r'
    simp only [PyData.shownAll, listText_nil]
    exact ReprK.listEmpty h1 h2 h3
  | cons x l => exact ReprK.list h1 h2 h3 na (by simpa using k.length_eq) (fun i y e => k.item i y (by simpa using e))
theorem shows_dic {a : Addr} {o : Obj} {es : Array DictEntry} {n : Nat} {ps : List (PyData × PyData)} (h1 : h.get? a = some o) (h2 : o.cls = .type "dict") (h3 : o.data = .dict es n) (hs : (a == sysModules) = false)
    (bk : ShowsL P w h (es.toList.map (·.key)) (ps.map (·.1))) (bv : ShowsL P w h (es.toList.map (·.val)) (ps.map (·.2))) : Shows P w h (.ref a) (.dict ps) := by
  obtain ⟨a1, r1⟩ := bk.rd
  obtain ⟨a2, r2⟩ := bv.rd
  obtain ⟨b1, m1, k1⟩ := bk.sh
  obtain ⟨b2, m2, k2⟩ := bv.sh
  have rr : Reads h (.ref a) (.dict ps) (a :: a1 ++ a2) := .dict h1 h2 h3 r1 r2
  have m : ReadAtMost h (PyData.depthKv ps) (b1 ++ b2) := (m1.mono (PyData.depthAll_keys_le ps)).append (m2.mono (PyData.depthAll_vals_le ps))
  have na : a ∉ b1 ++ b2 := not_mem_of_deeper rr (by simp only [PyData.depth]; omega) m
  refine ⟨⟨_, rr⟩, a :: (b1 ++ b2), ReadAtMost.cons rr (by simp only [PyData.depth]; omega) m, ?_⟩
  simp only [PyData.depth, PyData.shown, PyData.shownKv_eq]
  exact ReprK.dict h1 h2 h3 hs na (ReprEntriesK.of_two es.toList _ _ (k1.more_le (fun b hb => List.mem_append_left _ hb) (PyData.depthAll_keys_le ps)) (k2.more_le (fun b hb => List.mem_append_right _ hb) (PyData.depthAll_vals_le ps)))
end
def okAll (ps : List PyData) : Prop := PyData.showableAll ps = true ∧ ∀ t ∈ PyData.shownAll ps, t.length ≤ sizeLine
theorem okAll_cons {p : PyData} {ps : List PyData} (h : okAll (p :: ps)) : (p.showable = true ∧ p.shown.length ≤ sizeLine) ∧ okAll ps := by
  obtain ⟨h1, h2⟩ := h
  have h1' : p.showable = true ∧ PyData.showableAll ps = true := by simpa [PyData.showableAll] using h1
  simp only [PyData.shownAll] at h2
  exact ⟨⟨h1'.1, h2 _ List.mem_cons_self⟩, h1'.2, fun t ht => h2 t (List.mem_cons_of_mem _ ht)⟩
section
variable {X : Cx} {pins : List (Addr × Obj)} {σ : L2.St} {H : Hp} {s : Shared} {F : Hp} {m : List Addr}
mutual
theorem shX (I : Inv X pins σ H s) (sb : Sub F H) {c : Ct} (hK : c.K = X.K) : ∀ (d : D) (x : V) (u : Value) (p : PyData), Rep c F m d x → RelV x u → toPyX d = some p → p.showable = true → p.shown.length ≤ sizeLine → Shows X.prog X.w s.heap u p
  | .non, x, u, p, h, r, e, _, _ => by
    simp only [toPyX] at e
    cases e
    rw [show x = V.non from h] at r
    cases r
    exact ⟨⟨_, .none⟩, [], (fun _ z => nomatch z), by simp only [PyData.shown]; exact .of_is ReprIs.none _ _ _⟩
  | .bl b, x, u, p, h, r, e, _, _ => by
    simp only [toPyX] at e
    cases e
    rw [show x = V.bl b from h] at r
    cases r
    exact ⟨⟨_, .bool b⟩, [], (fun _ z => nomatch z), by simp only [PyData.shown]; exact .of_is (ReprIs.bool b) _ _ _⟩
  | .int i, x, u, p, h, r, e, hs, _ => by
    simp only [toPyX] at e
    cases e
    rw [show x = V.int i from h] at r
    obtain ⟨t, rfl⟩ := r
    exact ⟨⟨_, .int i t⟩, [], (fun _ z => nomatch z), by simp only [PyData.shown]; exact .of_is (ReprIs.int t (by simpa [PyData.showable] using hs)) _ _ _⟩
  | .str y, x, u, p, h, r, e, _, hz => by
    simp only [toPyX] at e
    cases e
    rw [show x = V.str y from h] at r
    obtain ⟨t, rfl⟩ := r
    exact ⟨⟨_, .str y t⟩, [], (fun _ z => nomatch z), by simp only [PyData.shown]; exact .of_is (ReprIs.str y t (by simpa only [PyData.shown] using hz)) _ _ _⟩
  | .lst ds, x, u, p, h, r, e, hs, hz => by
    rw [toPyX_lst] at e
    obtain ⟨q, e1, rfl⟩ := Option.map_eq_some_iff.mp e
    obtain ⟨a, xs, rfl, h1, rl⟩ := h
    cases r
    obtain ⟨its, rv, ⟨o, n, ho, hc, hdn, hd⟩, _⟩ := I.list (SqL.of (sb.at h1 rfl))
    refine shows_lst ho hc hd (shXL I sb hK ds xs its q rl rv e1 ⟨by simpa [PyData.showable] using hs, fun t ht => Nat.le_trans (listText_mem_le ht) (by simpa only [PyData.shown] using hz)⟩)
  | .tup ds, x, u, p, h, r, e, hs, hz => by
    rw [toPyX_tup] at e
    obtain ⟨q, e1, rfl⟩ := Option.map_eq_some_iff.mp e
    obtain ⟨a, xs, rfl, h1, rl⟩ := h
    cases r
    rw [hK] at h1
    obtain ⟨its, rv, ⟨o, ho, hc, n, hd⟩, _⟩ := I.tuple (sb.sqT h1)
    refine shows_tup ho hc hd (shXL I sb hK ds xs its.toArray.toList q rl (by simpa using rv) e1 ⟨by simpa [PyData.showable] using hs, fun t ht => Nat.le_trans (tupleText_mem_le ht) (by simpa only [PyData.shown] using hz)⟩)
  | .dicK kvs, x, u, p, h, r, e, hs, hz => by
    rw [toPyX_dic] at e
    obtain ⟨q, e1, rfl⟩ := Option.map_eq_some_iff.mp e
    obtain ⟨a, xs, rfl, h1, rk⟩ := h
    cases r
    obtain ⟨_, hsys, vs, kv, o, es, ep, ho, hx, hd, _, hp, _⟩ := dk_rd I.hok (sb.rd h1)
    have hz' : (dictText (PyData.shownKv q)).length ≤ sizeLine := by simpa only [PyData.shown] using hz
    obtain ⟨s1, s2⟩ := PyData.showableKv_split q (by simpa [PyData.showable] using hs)
    obtain ⟨b1, b2⟩ := shXK I sb hK kvs xs vs es.toList q rk kv hp e1 ⟨s1, fun t ht => let ⟨p, hp, hl⟩ := PyData.shownKv_key_le q t ht; Nat.le_trans hl (Nat.le_trans (dictText_mem_le hp) hz')⟩
      ⟨s2, fun t ht => let ⟨p, hp, hl⟩ := PyData.shownKv_val_le q t ht; Nat.le_trans hl (Nat.le_trans (dictText_mem_le hp) hz')⟩
    exact shows_dic ho hx.1 hd hsys b1 b2
  | .ty _, _, _, _, _, _, e, _, _ => by simp only [toPyX] at e; exact nomatch e
  | .dicT _, _, _, _, _, _, e, _, _ => by simp only [toPyX] at e; exact nomatch e
  | .ins _ _, _, _, _, _, _, e, _, _ => by simp only [toPyX] at e; exact nomatch e
  | .cel _, _, _, _, _, _, e, _, _ => by simp only [toPyX] at e; exact nomatch e
  | .scr _, _, _, _, _, _, e, _, _ => by simp only [toPyX] at e; exact nomatch e
theorem shXL (I : Inv X pins σ H s) (sb : Sub F H) {c : Ct} (hK : c.K = X.K) : ∀ (ds : List D) (xs : List V) (us : List Value) (ps : List PyData), RepL c F m ds xs → Vals xs us → toPyXL ds = some ps → okAll ps → ShowsL X.prog X.w s.heap us ps
  | [], xs, us, ps, h, r, e, _ => by
    simp only [toPyXL] at e
    cases e
    rw [show xs = [] from h] at r
    cases r
    exact showsL_nil
  | d :: ds, xs, us, ps, h, r, e, ok => by
    obtain ⟨p, q, e1, e2, rfl⟩ := toPyXL_cons e
    obtain ⟨y, ys, rfl, hy, hr⟩ := h
    cases r with
    | cons r1 r2 =>
      obtain ⟨⟨o1, o2⟩, o3⟩ := okAll_cons ok
      exact showsL_cons (shX I sb hK d y _ p hy r1 e1 o1 o2) (shXL I sb hK ds ys _ q hr r2 e2 o3)
theorem shXK (I : Inv X pins σ H s) (sb : Sub F H) {c : Ct} (hK : c.K = X.K) : ∀ (ds : List (Key × D)) (xs : List (Key × V)) (vs : List (Key × Value)) (es : List DictEntry) (ps : List (PyData × PyData)), RepK c F m ds xs → KV xs vs → Pairs (mixKind X.prog X.w) es vs → toPyXK ds = some ps → okAll (ps.map (·.1)) → okAll (ps.map (·.2)) →
    ShowsL X.prog X.w s.heap (es.map (·.key)) (ps.map (·.1)) ∧ ShowsL X.prog X.w s.heap (es.map (·.val)) (ps.map (·.2))
  | [], xs, vs, es, ps, h, r, pr, e, _, _ => by
    simp only [toPyXK] at e
    cases e
    rw [show xs = [] from h] at r
    cases r
    cases pr
    exact ⟨showsL_nil, showsL_nil⟩
  | (k, d) :: ds, xs, vs, es, ps, h, r, pr, e, ok1, ok2 => by
    obtain ⟨p, q, e1, e2, rfl⟩ := toPyXK_cons e
    obtain ⟨y, ys, rfl, hy, hr⟩ := h
    cases r with
    | @cons _ kv _ vs' r1 r2 =>
      cases pr with
      | @cons en _ es' _ hk hv pr' =>
        obtain ⟨⟨o1, o2⟩, o3⟩ := okAll_cons (by simpa using ok1)
        obtain ⟨⟨o4, o5⟩, o6⟩ := okAll_cons (by simpa using ok2)
        obtain ⟨b1, b2⟩ := shXK I sb hK ds ys vs' es' q hr r2 pr' e2 o3 o6
        refine ⟨?_, ?_⟩
        · simp only [List.map_cons]
          refine showsL_cons ?_ b1
          have rk : RelV (kV k) en.key := by
            have hk' := relV_key (show keyIs kv.1 en.key = true from hk)
            rw [← r1.1] at hk'
            exact hk'
          cases k with
          | inl i =>
            obtain ⟨t, et⟩ := rk
            rw [et]
            exact ⟨⟨_, .int i t⟩, [], (fun _ z => nomatch z), by simp only [PyData.shown, keyPy]; exact .of_is (ReprIs.int t (by simpa [PyData.showable, keyPy] using o1)) _ _ _⟩
          | inr z =>
            obtain ⟨t, et⟩ := rk
            rw [et]
            exact ⟨⟨_, .str z t⟩, [], (fun _ z => nomatch z), by simp only [PyData.shown, keyPy]; exact .of_is (ReprIs.str z t (by simpa only [PyData.shown, keyPy] using o2)) _ _ _⟩
        · simp only [List.map_cons]
          refine showsL_cons ?_ b2
          rw [hv]
          exact shX I sb hK d y _ p hy r1.2 e1 o4 o5
end
end
end DM
set_option Elab.async false
set_option linter.all false
set_option maxRecDepth 100000
set_option maxHeartbeats 1000000
namespace DM
open PySem PySem.Spec PyProof.Rows L2
def ReprTo (P : Program) (w : World) (h : Heap) (a : Addr) (p : PyData) : Prop := ∀ (A : Around) (E : Value → Shared → Prop) (s : Shared) (Q : Value → Shared → Prop), A.guards = some [] → A.units + (p.depth + 1) < cLine → p.shown.length ≤ sizeLine → (∀ b o, h.get? b = some o → s.heap.get? b = some o) →
  (∀ h' u tk, (∀ b o, s.heap.get? b = some o → h'.get? b = some o) → Q (.str p.shown u) { s with heap := h', toks := tk }) → wpAny (model P w) A (call (.builtin "repr") [.ref a]) Q E s
section
variable {P : Program} {w : World} {h : Heap} {a : Addr} {o : Obj} {n : Nat}
theorem repr_tup {its : Array Value} {ps : List PyData} (h1 : h.get? a = some o) (h2 : o.cls = .type "tuple") (h3 : o.data = .seq its n) (b : ShowsL P w h its.toList ps) : ReprTo P w h a (.tuple ps) := by
  intro A E s Q hg hu hz hk hQ
  obtain ⟨as, r⟩ := b.rd
  obtain ⟨bs, m, k⟩ := b.sh
  have na : a ∉ bs := not_mem_of_deeper (.tuple h1 h2 h3 r : Reads h (.ref a) (.tuple ps) as) (by simp only [PyData.depth]; omega) m
  simp only [PyData.depth] at hu
  simp only [PyData.shown] at hQ hz
  exact call_repr_slot (by omega) ⟨o, hk _ _ h1, h2⟩ F.slot_tuple_repr (call_tuple_reprK (A := A.in1) h1 h2 h3 na k hg (fun b _ => Clear.nil b) (by show A.units + 1 + _ < cLine; omega) hk (fun h' u tk kk => ⟨_, _, rfl, hQ h' u tk kk⟩) hz)
theorem repr_lst {its : List Value} {ps : List PyData} (h1 : h.get? a = some o) (h2 : o.cls = .type "list") (h3 : o.data = .seq its.toArray n) (b : ShowsL P w h its ps) : ReprTo P w h a (.list ps) := by
  intro A E s Q hg hu hz hk hQ
  obtain ⟨as, r⟩ := b.rd
  obtain ⟨bs, m, k⟩ := b.sh
  have na : a ∉ bs := not_mem_of_deeper (.list h1 h2 h3 (by simpa using r) : Reads h (.ref a) (.list ps) (a :: as)) (by simp only [PyData.depth]; omega) m
  simp only [PyData.depth] at hu
  simp only [PyData.shown] at hQ hz
  refine call_repr_slot (by omega) ⟨o, hk _ _ h1, h2⟩ F.slot_list_repr.toG ?_
  cases its with
  | nil =>
    have r' : ReadsAll h [] ps _ := r
    cases r'
    simp only [PyData.shownAll, listText_nil] at hQ
    exact call_list_repr_empty ⟨o, hk _ _ h1, h2⟩ (hk _ _ h1) h3 ⟨_, _, rfl, hQ s.heap _ _ fun _ _ e => e⟩
  | cons x l => exact call_list_reprK (A := A.in1) h1 h2 h3 na (by simpa using k.length_eq) (fun i y e => k.item i y (by simpa using e)) hg (fun b _ => Clear.nil b) (by show A.units + 1 + _ < cLine; omega) hk (fun h' u tk kk => ⟨_, _, rfl, hQ h' u tk kk⟩) hz
theorem repr_dic {es : Array DictEntry} {ps : List (PyData × PyData)} (h1 : h.get? a = some o) (h2 : o.cls = .type "dict") (h3 : o.data = .dict es n) (hs : (a == sysModules) = false)
    (bk : ShowsL P w h (es.toList.map (·.key)) (ps.map (·.1))) (bv : ShowsL P w h (es.toList.map (·.val)) (ps.map (·.2))) : ReprTo P w h a (.dict ps) := by
  intro A E s Q hg hu hz hk hQ
  obtain ⟨a1, r1⟩ := bk.rd
  obtain ⟨a2, r2⟩ := bv.rd
  obtain ⟨b1, m1, k1⟩ := bk.sh
  obtain ⟨b2, m2, k2⟩ := bv.sh
  have m : ReadAtMost h (PyData.depthKv ps) (b1 ++ b2) := (m1.mono (PyData.depthAll_keys_le ps)).append (m2.mono (PyData.depthAll_vals_le ps))
  have na : a ∉ b1 ++ b2 := not_mem_of_deeper (.dict h1 h2 h3 r1 r2 : Reads h (.ref a) (.dict ps) (a :: a1 ++ a2)) (by simp only [PyData.depth]; omega) m
  simp only [PyData.depth] at hu
  simp only [PyData.shown, PyData.shownKv_eq] at hQ hz
  exact call_repr_slot (by omega) ⟨o, hk _ _ h1, h2⟩ F.slot_dict_repr (call_dict_reprK (A := A.in1) h1 h2 h3 hs na (ReprEntriesK.of_two es.toList _ _ (k1.more_le (fun b hb => List.mem_append_left _ hb) (PyData.depthAll_keys_le ps)) (k2.more_le (fun b hb => List.mem_append_right _ hb) (PyData.depthAll_vals_le ps)))
    hg (fun b _ => Clear.nil b) (by show A.units + 1 + _ < cLine; omega) hk (fun h' u tk kk => ⟨_, _, rfl, hQ h' u tk kk⟩) hz)
end
section
variable {X : Cx} {W : WX}
def rRepr (X : Cx) : List V → Hp → VK → Prop := fun xs H Q => ∃ a p, xs = [V.ref a] ∧ (∀ pins σ s, Inv X pins σ H s → ReprTo X.prog X.w s.heap a p) ∧ p.depth < 60 ∧ p.shown.length ≤ sizeLine ∧ Q (.str p.shown) H
theorem cr_repr {k : Nat} (hr : RG k X.A) : CallR X (.builtin "repr") (rRepr X) := by
  intro pins s σ H xs us Q I r h
  obtain ⟨a, p, rfl, hp, hd, hz, q⟩ := h
  rw [Vals.ref1 r]
  have hu := hr.rm.units
  exact hp pins σ s I X.A X.xe s _ hr.gd (by omega) hz (fun _ _ e => e) fun h' u tk kk => ⟨.str p.shown, H, I.kept kk, ⟨u, rfl⟩, q⟩
def heavyD : D → Bool
  | .lst _ => true
  | .tup _ => true
  | .dicK _ => true
  | _ => false
def okRepr (p : PyData) : Bool := p.showable && (Nat.blt p.depth 60 && Nat.ble p.shown.length 1000000)
def oRepr : OC := fun ds => match ds with
  | [d] => if heavyD d then (match toPyX d with
    | some p => if okRepr p then some (.str p.shown) else none
    | none => none) else none
  | _ => none
theorem reprTo_peek {d : D} {x : V} {H : Hp} {w : Wd} {p : PyData} (s : Sub w.F H) (r : PRep (XC X) H w d x) (hv : heavyD d = true) (e : toPyX d = some p) (hs : p.showable = true) (hz : p.shown.length ≤ sizeLine) :
    ∃ a, x = .ref a ∧ ∀ pins σ s, Inv X pins σ H s → ReprTo X.prog X.w s.heap a p := by
  cases d with
  | lst ds =>
    rw [toPyX_lst] at e
    obtain ⟨q, e1, rfl⟩ := Option.map_eq_some_iff.mp e
    obtain ⟨a, xs, rfl, h1, rl⟩ := r
    refine ⟨a, rfl, fun pins σ sh I => ?_⟩
    obtain ⟨its, rv, ⟨o, n, ho, hc, hdn, hd⟩, _⟩ := I.list (SqL.of h1)
    exact repr_lst ho hc hd (shXL I s rfl ds xs its q rl rv e1 ⟨by simpa [PyData.showable] using hs, fun t ht => Nat.le_trans (listText_mem_le ht) (by simpa only [PyData.shown] using hz)⟩)
  | tup ds =>
    rw [toPyX_tup] at e
    obtain ⟨q, e1, rfl⟩ := Option.map_eq_some_iff.mp e
    obtain ⟨a, xs, rfl, h1, rl⟩ := r
    refine ⟨a, rfl, fun pins σ sh I => ?_⟩
    obtain ⟨its, rv, ⟨o, ho, hc, n, hd⟩, _⟩ := I.tuple (s.sqT h1)
    exact repr_tup ho hc hd (shXL I s rfl ds xs its.toArray.toList q rl (by simpa using rv) e1 ⟨by simpa [PyData.showable] using hs, fun t ht => Nat.le_trans (tupleText_mem_le ht) (by simpa only [PyData.shown] using hz)⟩)
  | dicK kvs =>
    rw [toPyX_dic] at e
    obtain ⟨q, e1, rfl⟩ := Option.map_eq_some_iff.mp e
    obtain ⟨a, xs, rfl, h1, rk⟩ := r
    refine ⟨a, rfl, fun pins σ sh I => ?_⟩
    obtain ⟨_, hsys, vs, kv, o, es, ep, ho, hx, hd, _, hp, _⟩ := dk_rd I.hok h1
    have hz' : (dictText (PyData.shownKv q)).length ≤ sizeLine := by simpa only [PyData.shown] using hz
    obtain ⟨s1, s2⟩ := PyData.showableKv_split q (by simpa [PyData.showable] using hs)
    obtain ⟨b1, b2⟩ := shXK I s rfl kvs xs vs es.toList q rk kv hp e1 ⟨s1, fun t ht => let ⟨p, hp, hl⟩ := PyData.shownKv_key_le q t ht; Nat.le_trans hl (Nat.le_trans (dictText_mem_le hp) hz')⟩
      ⟨s2, fun t ht => let ⟨p, hp, hl⟩ := PyData.shownKv_val_le q t ht; Nat.le_trans hl (Nat.le_trans (dictText_mem_le hp) hz')⟩
    exact repr_dic ho hx.1 hd hsys b1 b2
  | _ => cases hv
theorem callS_repr {k : Nat} (hr : RG k X.A) : CallS X (.builtin "repr") oRepr := by
  refine ⟨_, cr_repr hr, fun B s σ H w ds d xs Q S ra e q => ?_⟩
  unfold oRepr at e
  split at e
  · rename_i d0
    split at e
    · rename_i hv
      split at e
      · rename_i p hp
        split at e
        · rename_i hk
          cases e
          unfold okRepr at hk
          rw [Bool.and_eq_true, Bool.and_eq_true] at hk
          obtain ⟨x, rfl, h1⟩ := one_arg ra
          have hz : p.shown.length ≤ sizeLine := ble_line hk.2.2
          obtain ⟨a, rfl, k2⟩ := reprTo_peek S.co.sub h1 hv hp hk.1 hz
          exact ⟨a, p, rfl, k2, Nat.le_of_ble_eq_true hk.2.1, hz, q _ H w (Wd.le.refl w) S rfl⟩
        · cases e
      · cases e
    · cases e
  · cases e
theorem de_repr {k : Nat} {e : Expr} {m : M (List D)} {p pos : Pos} (hr : RG k X.A) (hm : X.mg "repr" = none) (h : DP X W [e] m) (hg : Gl X "repr" := by rfl)
    (he : starEach [e] X.env = (false, eval e X.env) :: starEach [] X.env := by rfl) (hpl : (backTo pos (starEach [] X.env)).any (·.1) = false := by rfl) : DE X W (.Call (.Name "repr" p) [e] [] pos) (mCallS oRepr m) :=
  de_callB (callS_repr hr) h hg hm boot_repr' (by decide) (by decide) he hpl
end
end DM
set_option Elab.async false
set_option linter.all false
set_option maxRecDepth 100000
set_option maxHeartbeats 1000000
namespace DM
open PySem PySem.Spec PyProof.Rows L2
theorem RG.u64 {k : Nat} {A : Around} (r : RG k A) : A.units + 64 < cLine := r.rm.units
theorem RG.u65 {k : Nat} {A : Around} (r : RG k A) : A.units + 65 < cLine := by have := r.rm.un; omega
theorem RG.u66 {k : Nat} {A : Around} (r : RG k A) : A.units + 66 < cLine := by have := r.rm.un; omega
abbrev FnP (K : PySem.W.Frag) (x q : Str) (st : Stmt) (f : Addr) (fd : FuncData) : Prop := FunD K x q (defArgs st) (defBody st) (defScope st) [] [] f fd
theorem FnP.fun_ {K : PySem.W.Frag} {x q : Str} {st : Stmt} {f : Addr} {fd : FuncData} (F : FnP K x q st f fd) : L2.Fun K x q st f fd := by
  obtain ⟨oc, od, dV, kV, doc, pm, an, cdv, ct, osl, h1, h2, h3, h4, _⟩ := F.ex
  rcases h4 with ⟨_, rfl⟩ | ⟨e, _⟩
  · exact ⟨⟨oc, od, kV, doc, pm, an, cdv, ct, osl, h1, h2, h3⟩, F.kp⟩
  · exact absurd rfl e
structure Rdy (P : Program) (w : World) (K : PySem.W.Frag) (mg : Str → Option Value) (base : Heap) (k : Nat) (x : Str) (ps : List Str) (F : Fn) : Prop where
  ex : ∃ f fd, FnD P w K mg base k f fd ps F ∧ mg x = some (.ref f) ∧ PySem.W.keepIn K (.ref f) = true ∧ Binds K fd ps []
section
variable {P : Program} {w : World} {K : PySem.W.Frag} {mg : Str → Option Value} {base : Heap}
theorem rdy {x q : Str} {st : Stmt} {f : Addr} {fd : FuncData} {N ps : List Str} {k : Nat} {body : MS} (F : FnP K x q st f fd) (hm : mg x = some (.ref f)) (S : FnScope N ps (defScope st)) (hps : ps.length ≤ N.length)
    (hb : ∀ (kV doc pm : Value) (an : Option Addr) (cdv ct : Value) (us : List Value), us.length = ps.length → bindArgs (PySem.W.fnOf x q (defArgs st) (defBody st) (defScope st) .none kV doc pm an cdv ct) ⟨us, []⟩ = pure (ps.zip us))
    (h : ∀ (cdv : Value) (A : Around) (outer : List Env) (s : Shared) (H : Hp) (E : XK), RG k (A.deeper (envOfC q (defScope st) s.heap.objs.size f cdv)) →
      Takes (cxOf (L2.CX P w) P w K mg base N q (defScope st) f cdv A outer s H E) (fun cls d _ H => E cls d H) →
      PassesOwn (model P w) (A.deeper (envOfC q (defScope st) s.heap.objs.size f cdv)) (envOfC q (defScope st) s.heap.objs.size f cdv) (cxOf (L2.CX P w) P w K mg base N q (defScope st) f cdv A outer s H E).xe →
      DSs (cxOf (L2.CX P w) P w K mg base N q (defScope st) f cdv A outer s H E) (fun cls d _ H => E cls d H) (defBody st) body) :
    Rdy P w K mg base (k + 1) x ps (runFn N.length body) :=
  ⟨f, fd, fnD F.fun_ S hps h, hm, F.kp, F.bindsN hb⟩
theorem Rdy.mono {j k : Nat} {x : Str} {ps : List Str} {F : Fn} (h : Rdy P w K mg base j x ps F) (l : j ≤ k) : Rdy P w K mg base k x ps F := by
  obtain ⟨f, fd, h1, h2, h3, h4⟩ := h.ex
  exact ⟨f, fd, FnG.mono h1 l, h2, h3, h4⟩
end
section
variable {X : Cx} {W : WX}
theorem de_callR {j k : Nat} {x : Str} {ps : List Str} {F : Fn} {e : Expr} {es : List Expr} {m : M (List D)} {p pos : Pos} (R : Rdy X.prog X.w X.K X.mg X.base j x ps F) (hr : RG k X.A) (tk : Takes X W) (ha : DA X W (e :: es) m) (hm2 : ∀ s d s', m s = .ok d s' → d.length = (e :: es).length)
    (hjk : j ≤ k := by decide) (hps : ps.length = (e :: es).length := by rfl) (hc : X.calm = true := by rfl) (hg : Gl X x := by rfl) (hdb : (x == ("__debug__" : Str)) = false := by decide)
    (he : starEach (e :: es) X.env = (false, eval e X.env) :: starEach es X.env := by rfl) (hpl : (backTo pos (starEach es X.env)).any (·.1) = false := by rfl) : DE X W (.Call (.Name x p) (e :: es) [] pos) (mCall F m) := by
  obtain ⟨f, fd, h1, h2, h3, h4⟩ := R.ex
  exact de_call h1 (hr.mono hjk) h2 h3 h4 tk ha hps hm2 hc hg hdb he hpl
def mSetV (i : Nat) (m : M (List D)) : MS := bnd m fun ds => fun s => .ok .nx ⟨s.env.set i (some (.val (.lst ds))), s.cells⟩
theorem posts_frz {c : Ct} {B : Bs} {m : M (List D)} {s : S} {σ : L2.St} {w : Wd} {D : Ends} {i : Nat} (p : PostS c B W (mSetV i m s) w D) : PostF c B W (m s) σ w (fun x H1 => gName i x σ H1 D.nx) :=
  postsF (f := fun ds => fun s => .ok .nx ⟨s.env.set i (some (.val (.lst ds))), s.cells⟩) p fun d s1 x H1 w1 _ l1 S1 r1 p1 => by
    obtain ⟨w2, l2, S2, r2⟩ := r1.frozen S1
    exact p1 _ H1 w2 l2 (S2.setVal r2)
variable {scope : Scope} {elt tg iter tg1 iter1 : Expr} {ifs ifs1 : List Expr} {own : List (Str × Nat)} {vs : List Nat} {pos spos : Pos} {is is1 : List Nat} {mi mi1 : M (List D)} {f f1 : D → M Unit} {m m1 : M Bool} {me : M D} {i : Nat} {y : Str} {py : Pos}
theorem ds_setLcV (hN : X.N.Nodup) (own : List (Str × Nat)) (ok : BlkOk X.N X.env.scope scope own) (hi : DI X W tg iter mi) (hg : ∀ b, DG (bx X scope b) tg is f) (ht : ∀ b, DTs (bx X scope b) WF ifs m) (he : ∀ b, DE (bx X scope b) WF elt me)
    (hy : X.N[i]? = some y := by rfl) (hyl : X.env.scope.names.lookup y = some .local := by rfl) (hsw : swapsWith (.ListComp elt [⟨tg, iter, ifs, 0⟩] scope pos) (some (.Name y py)) spos.line X.env = pure true := by exact sw_true rfl rfl rfl rfl)
    (hvs : own.map (·.2) = vs := by rfl) (hv : ∀ i ∈ is, i ∈ vs := by decide) (hc : X.calm = true := by rfl) (hs : ∀ x, foldedSetIterable iter X.env x = pure x := by intro _; rfl) :
    DS X W (.Assign [.Name y py] (.ListComp elt [⟨tg, iter, ifs, 0⟩] scope pos) spos) (mSetV i (mComp mi (lcGo f m (lcOne me) vs) vs)) := by
  obtain ⟨wi, pi, ki⟩ := hi
  obtain ⟨g, pg, kg⟩ := uniG hc hg
  obtain ⟨tt, pt, kt⟩ := uniT hc ht
  obtain ⟨te, pe, ke⟩ := uniE hc he
  refine ds_of (ps_setLc hc hN hy hyl hsw pi ok pg pt pe hs) fun B s σ H w D S p => ?_
  rw [hvs]
  exact top_ok (body := leafB te) ki kg kt (fun B a => leaf_ok ke) hv S (posts_frz (σ := σ) p)
theorem ds_setLcV2 (hN : X.N.Nodup) (own : List (Str × Nat)) (ok : BlkOk X.N X.env.scope scope own) (hi : DI X W tg iter mi) (hg : ∀ b, DG (bx X scope b) tg is f) (ht : ∀ b, DTs (bx X scope b) WF ifs m)
    (hi1 : ∀ b, DI (bx X scope b) WF tg1 iter1 mi1) (hg1 : ∀ b, DG (bx X scope b) tg1 is1 f1) (ht1 : ∀ b, DTs (bx X scope b) WF ifs1 m1) (he : ∀ b, DE (bx X scope b) WF elt me)
    (hy : X.N[i]? = some y := by rfl) (hyl : X.env.scope.names.lookup y = some .local := by rfl) (hsw : swapsWith (.ListComp elt [⟨tg, iter, ifs, 0⟩, ⟨tg1, iter1, ifs1, 0⟩] scope pos) (some (.Name y py)) spos.line X.env = pure true := by exact sw_true rfl rfl rfl rfl)
    (hvs : own.map (·.2) = vs := by rfl) (hv : ∀ i ∈ is, i ∈ vs := by decide) (hv2 : ∀ i ∈ is1, i ∈ own.map (·.2) := by decide) (hc : X.calm = true := by rfl) (hs : ∀ x, foldedSetIterable iter X.env x = pure x := by intro _; rfl) (hs1 : ∀ env x, foldedSetIterable iter1 env x = pure x := by intro _ _; rfl) :
    DS X W (.Assign [.Name y py] (.ListComp elt [⟨tg, iter, ifs, 0⟩, ⟨tg1, iter1, ifs1, 0⟩] scope pos) spos) (mSetV i (mComp mi (lcGo f m (lcIn mi1 (lcGo f1 m1 (lcOne me) is1) is1) vs) vs)) := by
  obtain ⟨wi, pi, ki⟩ := hi
  obtain ⟨g, pg, kg⟩ := uniG hc hg
  obtain ⟨tt, pt, kt⟩ := uniT hc ht
  obtain ⟨wi1, pi1, ki1⟩ := uniI hc hi1
  obtain ⟨g1, pg1, kg1⟩ := uniG hc hg1
  obtain ⟨tt1, pt1, kt1⟩ := uniT hc ht1
  obtain ⟨te, pe, ke⟩ := uniE hc he
  refine ds_of (ps_setLc2 (vs1 := is1) hc hN hy hyl hsw pi ok hv2 pg pt pi1 pg1 pt1 pe hs hs1) fun B s σ H w D S p => ?_
  rw [hvs]
  exact top_ok (body := fun a => nestB wi1 g1 tt1 is1 (leafB te a)) ki kg kt (fun B a => nest_ok ki1 kg1 kt1 (leaf_ok ke) fun _ h => h) hv S (posts_frz (σ := σ) p)
theorem de_dict0 {pos : Pos} : DE X W (.Dict [] [] pos) (ret (.dicK [])) := by
  refine de_of pe_dnewK fun B s σ H w Q S p a ha => ?_
  have F0 := S.free_F ha
  exact post_ret p (le_newF F0) (S.newF ha) ⟨a, [], rfl, .inl upd_same, rfl⟩
def oLenD : OC := fun ds => match ds with
  | [.dicK kvs] => some (.int kvs.length)
  | _ => none
theorem RepK.length {c : Ct} {F : Hp} {m : List Addr} : ∀ {fs : List (Key × D)} {xs : List (Key × V)}, RepK c F m fs xs → fs.length = xs.length
  | [], xs, h => by rw [show xs = [] from h] <;> rfl
  | (_, _) :: ds, _, ⟨y, ys, e, _, r⟩ => by rw [e, List.length_cons, List.length_cons, RepK.length r]
def rLenD : List V → Hp → VK → Prop := fun xs H Q => ∃ (a : Addr) (kvs : List (Key × V)), xs = [V.ref a] ∧ Rd H a (.dK kvs) ∧ Q (.int kvs.length) H
theorem cr_lenD : CallR X (.builtin "len") rLenD := by
  intro pins s σ H xs us Q I r h
  obtain ⟨a, kvs, rfl, hd, q⟩ := h
  rw [Vals.ref1 r]
  exact d_len I hd fun t s' I' => ⟨.int kvs.length, H, I', ⟨t, rfl⟩, q⟩
theorem callS_lenD : CallS X (.builtin "len") oLenD := by
  refine ⟨_, cr_lenD, fun B s σ H w ds d xs Q S ra e q => ?_⟩
  unfold oLenD at e
  split at e
  · rename_i kvs
    cases e
    obtain ⟨x, rfl, a, ys, e1, h1, r1⟩ := one_arg ra
    exact ⟨a, ys, by rw [e1], h1, q _ H w (Wd.le.refl w) S (by rw [r1.length]; exact rfl)⟩
  · cases e
theorem de_lenD {e : Expr} {m : M (List D)} {p pos : Pos} (hm : X.mg "len" = none) (h : DP X W [e] m) (hg : Gl X "len" := by rfl)
    (he : starEach [e] X.env = (false, eval e X.env) :: starEach [] X.env := by rfl) (hpl : (backTo pos (starEach [] X.env)).any (·.1) = false := by rfl) : DE X W (.Call (.Name "len" p) [e] [] pos) (mCallS oLenD m) :=
  de_callB callS_lenD h hg hm PySem.boot_len (by decide) (by decide) he hpl
end
end DM
set_option Elab.async false
set_option linter.all false
set_option maxRecDepth 100000
set_option maxHeartbeats 1000000
namespace DM
open PySem PySem.Spec PyProof.Rows L2
def putKD (kvs : List (Key × D)) (k : Key) (v : D) : List (Key × D) :=
  if (kvs.any fun q => decide (q.1 = k)) = true then kvs.map (fun q => if q.1 = k then (q.1, v) else q) else kvs ++ [(k, v)]
def putAll (a : List (Key × D)) (ys : List (Key × D)) : List (Key × D) := ys.foldl (fun a p => putKD a p.1 p.2) a
theorem putAll_app (a xs ys : List (Key × D)) : putAll a (xs ++ ys) = putAll (putAll a xs) ys := List.foldl_append
theorem putKD_len (a : List (Key × D)) (k : Key) (v : D) : (putKD a k v).length ≤ a.length + 1 := by
  unfold putKD
  split
  · rw [List.length_map]; omega
  · rw [List.length_append] <;> exact Nat.le_refl _
theorem putAll_len : ∀ (ys a : List (Key × D)), (putAll a ys).length ≤ a.length + ys.length
  | [], a => Nat.le_refl _
  | y :: ys, a => by
    have h1 := putAll_len ys (putKD a y.1 y.2)
    have h2 := putKD_len a y.1 y.2
    have e : putAll a (y :: ys) = putAll (putKD a y.1 y.2) ys := rfl
    rw [e, List.length_cons]
    omega
section
variable {c : Ct} {F : Hp} {m : List Addr}
theorem RepK.any : ∀ {ds : List (Key × D)} {xs : List (Key × V)} (k : Key), RepK c F m ds xs → (xs.any fun q => decide (q.1 = k)) = (ds.any fun q => decide (q.1 = k))
  | [], xs, k, h => by rw [show xs = [] from h] <;> rfl
  | (j, d) :: ds, _, k, ⟨y, ys, e, _, r⟩ => by
    subst e
    rw [List.any_cons, List.any_cons, RepK.any k r]
theorem RepK.upd {k : Key} {v : D} {x : V} (h : Rep c F m v x) : ∀ {ds : List (Key × D)} {xs : List (Key × V)}, RepK c F m ds xs → RepK c F m (ds.map fun q => if q.1 = k then (q.1, v) else q) (xs.map fun q => if q.1 = k then (q.1, x) else q)
  | [], xs, r => by rw [show xs = [] from r]; exact rfl
  | (j, d) :: ds, _, ⟨y, ys, e, hy, r⟩ => by
    subst e
    rw [List.map_cons, List.map_cons]
    by_cases hj : j = k
    · rw [if_pos hj, if_pos hj]
      exact ⟨x, _, rfl, h, RepK.upd h r⟩
    · rw [if_neg hj, if_neg hj]
      exact ⟨y, _, rfl, hy, RepK.upd h r⟩
theorem RepK.snoc {k : Key} {v : D} {x : V} (h : Rep c F m v x) : ∀ {ds : List (Key × D)} {xs : List (Key × V)}, RepK c F m ds xs → RepK c F m (ds ++ [(k, v)]) (xs ++ [(k, x)])
  | [], xs, r => by rw [show xs = [] from r]; exact ⟨x, [], rfl, h, rfl⟩
  | (j, d) :: ds, _, ⟨y, ys, e, hy, r⟩ => by
    subst e
    exact ⟨y, _, rfl, hy, RepK.snoc h r⟩
theorem RepK.put {k : Key} {v : D} {x : V} {ds : List (Key × D)} {xs : List (Key × V)} (h : Rep c F m v x) (r : RepK c F m ds xs) : RepK c F m (putKD ds k v) (putK xs k x) := by
  unfold putKD putK
  rw [RepK.any k r]
  by_cases hk : (ds.any fun q => decide (q.1 = k)) = true
  · rw [if_pos hk, if_pos hk]; exact RepK.upd h r
  · rw [if_neg hk, if_neg hk]; exact RepK.snoc h r
end
theorem RepWK.le {c : Ct} {w w' : Wd} (h : w.le w') {d : List (Key × D)} {x : List (Key × V)} (r : RepK c w.F w.m d x) : RepK c w'.F w'.m d x := RepK.mono h.1 h.2 d x r
def DPost (c : Ct) (B : Bs) (a : Addr) (r : Res (List (Key × D))) (σ : L2.St) (w : Wd) (accD : List (Key × D)) (K : Hp → Prop) : Prop :=
  match r with
  | .ok ys s => accD.length + ys.length ≤ 1000000 ∧ ∀ H' w' acc', w.le w' → Sim c (B.lend a (.dK acc')) s σ H' w' → RepK c w'.F w'.m (putAll accD ys) acc' → K H'
  | _ => False
theorem DPost.up {c : Ct} {B : Bs} {a : Addr} {r : Res (List (Key × D))} {σ : L2.St} {w w' : Wd} {accD : List (Key × D)} {K : Hp → Prop} (h : DPost c B a r σ w accD K) (l : w.le w') : DPost c B a r σ w' accD K := by
  cases r with
  | ok ys s => exact ⟨h.1, fun H' w2 acc' l2 => h.2 H' w2 acc' (l.trans l2)⟩
  | exc e s => exact h
  | bad => exact h
def BodyOkD (c : Ct) (B : Bs) (a : Addr) (inner : M (List (Key × D))) (body : CBody) : Prop := ∀ s σ H w acc accD K, Sim c (B.lend a (.dK acc)) s σ H w → RepK c w.F w.m accD acc → DPost c B a (inner s) σ w accD K → body σ H K
theorem lvD_ok {c : Ct} {B : Bs} {a : Addr} {is vs : List Nat} {f : D → M Unit} {g : TG} {m : M Bool} {tt : TT} {inner : M (List (Key × D))} {body : CBody} (hg : SndG c is f g) (ht : SndT c m tt) (hb : BodyOkD c B a inner body) (hv : ∀ i ∈ is, i ∈ vs)
    {J : It} {w0 w : Wd} {items : List D} (J1 : IterOk c J w0 items) (l0 : w0.le w) {s : S} {σ : L2.St} {H : Hp} {acc : List (Key × V)} {accD : List (Key × D)} {K : Hp → Prop} (S : Sim c (B.lend a (.dK acc)) s (wipe σ vs) H w) (r : RepK c w.F w.m accD acc)
    (p : DPost c B a (lcGo f m inner vs items s) (wipe σ vs) w accD K) : LV J K σ g tt vs body H := by
  refine ⟨fun i n H => i ≤ items.length ∧ n = items.length - i ∧ ∃ s w acc accD, w0.le w ∧ Sim c (B.lend a (.dK acc)) s (wipe σ vs) H w ∧ RepK c w.F w.m accD acc ∧ DPost c B a (lcGo f m inner vs (items.drop i) s) (wipe σ vs) w accD K,
    ⟨items.length - 0, Nat.zero_le _, rfl, s, w, acc, accD, l0, S, r, p⟩, ?_⟩
  rintro i n H2 ⟨hi, rfl, s2, w2, acc2, accD2, l2, S2, r2, p2⟩
  by_cases hlt : i < items.length
  · right
    obtain ⟨d, hd⟩ : ∃ d, items[i]? = some d := ⟨items[i], List.getElem?_eq_getElem hlt⟩
    obtain ⟨g1, g2⟩ := J1.go i d _ s2 _ H2 w2 hd l2 S2
    rw [drop_cons hd] at p2
    refine ⟨g1, fun H' => ∃ s w acc accD, w0.le w ∧ Sim c (B.lend a (.dK acc)) s (wipe σ vs) H' w ∧ RepK c w.F w.m accD acc ∧ DPost c B a (lcGo f m inner vs (items.drop (i + 1)) s) (wipe σ vs) w accD K,
      fun H' q => ⟨items.length - (i + 1), by omega, hlt, rfl, q⟩, fun x H' y => ?_⟩
    obtain ⟨w3, l3, S3, r3⟩ := g2 x H' y
    have p3 := DPost.up p2 l3
    unfold lcGo at p3
    refine hg _ s2 _ H' w3 d x _ S3 r3 ?_
    cases ef : f d s2 with
    | exc ex s4 => simp only [ef] at p3; exact p3.elim
    | bad => simp only [ef] at p3; exact p3.elim
    | ok u s4 =>
      simp only [ef] at p3
      intro σ4 H4 w4 l4 S4 o4
      have ew : wipe σ4 vs = wipe σ vs := by
        rw [o4 vs hv]
        apply List.ext_getElem?
        intro j
        rw [wipe_get, wipe_length, wipe_get]
        by_cases h : j ∈ vs
        · rw [if_pos h, if_pos h]
        · rw [if_neg h, if_neg h]
      refine ⟨ew, ?_⟩
      have p4 := DPost.up p3 l4
      refine ht _ s4 σ4 H4 w4 _ S4 ?_
      cases et : m s4 with
      | exc ex s5 => simp only [et] at p4; exact p4.elim
      | bad => simp only [et] at p4; exact p4.elim
      | ok b s5 =>
        intro b' H5 w5 l5 S5 eb
        subst eb
        have l25 := l2.trans (l3.trans (l4.trans l5))
        cases b with
        | false =>
          simp only [et] at p4
          rw [if_neg Bool.false_ne_true]
          have S6 := S5.wipe vs
          rw [ew] at S6
          exact ⟨_, w5, acc2, accD2, l25, S6, RepWK.le (l3.trans (l4.trans l5)) r2, DPost.up p4 l5⟩
        | true =>
          simp only [et] at p4
          rw [if_pos rfl]
          refine hb s5 σ4 H5 w5 acc2 accD2 _ S5 (RepWK.le (l3.trans (l4.trans l5)) r2) ?_
          have p5 := DPost.up p4 l5
          cases ei : inner s5 with
          | exc ex s6 => simp only [ei] at p5; exact p5.elim
          | bad => simp only [ei] at p5; exact p5.elim
          | ok xs s6 =>
            simp only [ei] at p5
            cases er : lcGo f m inner vs (items.drop (i + 1)) (wipeS vs s6) with
            | exc ex s7 => simp only [er] at p5; exact p5.elim
            | bad => simp only [er] at p5; exact p5.elim
            | ok ys s7 =>
              simp only [er] at p5
              obtain ⟨q1, q2⟩ := p5
              rw [List.length_append] at q1
              have hpl := putAll_len xs accD2
              refine ⟨by omega, fun H6 w6 acc6 l6 S6 r6 => ?_⟩
              have S7 := S6.wipe vs
              rw [ew] at S7
              refine ⟨_, w6, acc6, putAll accD2 xs, l25.trans l6, S7, r6, ?_⟩
              rw [er]
              refine ⟨by omega, fun H8 w8 acc8 l8 S8 r8 => q2 H8 w8 acc8 (l6.trans l8) S8 (by rw [putAll_app]; exact r8)⟩
  · left
    have e : i = items.length := by omega
    subst e
    refine ⟨J1.stop _ s2 _ H2 w2 l2 S2, ?_⟩
    rw [List.drop_length] at p2
    exact p2.2 H2 w2 acc2 (Wd.le.refl w2) S2 r2
def keyD : D → Option Key
  | .int i => some (.inl i)
  | .str x => some (.inr x)
  | _ => none
theorem keyD_rep {c : Ct} {w : Wd} {d : D} {x : V} {k : Key} (h : keyD d = some k) (r : RepW c w d x) : x = kV k := by
  cases d with
  | int i => cases h; exact r
  | str z => cases h; exact r
  | _ => cases h
def dcOne (tk tv : M D) : M (List (Key × D)) := fun s => match tk s with
  | .ok kd s1 => (match tv s1 with
    | .ok d s2 => (match keyD kd with
      | some k => .ok [(k, d)] s2
      | none => .bad)
    | _ => .bad)
  | _ => .bad
def leafD (tk tv : TE) (a : Addr) : CBody := fun σ H K => tk σ H fun y H4 => tv σ H4 fun z H5 => ∃ kvs k, y = kV k ∧ H5 a = some (.dK kvs) ∧ kvs.length < sizeLine ∧ K (upd H5 a (.dK (putK kvs k z)))
theorem leafD_ok {c : Ct} {B : Bs} {a : Addr} {mk mv : M D} {tk tv : TE} (hk : SndE c mk tk) (hv : SndE c mv tv) : BodyOkD c B a (dcOne mk mv) (leafD tk tv a) := by
  intro s σ H w acc accD K S r p
  refine hk _ s σ H w _ S ?_
  unfold dcOne at p
  cases em : mk s with
  | exc ex s1 => simp only [em] at p; exact p.elim
  | bad => simp only [em] at p; exact p.elim
  | ok kd s1 =>
    simp only [em] at p
    intro y H1 w1 l1 S1 ry
    refine hv _ s1 σ H1 w1 _ S1 ?_
    cases en : mv s1 with
    | exc ex s2 => simp only [en] at p; exact p.elim
    | bad => simp only [en] at p; exact p.elim
    | ok d s2 =>
      simp only [en] at p
      cases ek : keyD kd with
      | none => simp only [ek] at p; exact p.elim
      | some k =>
        simp only [ek] at p
        obtain ⟨p1, p2⟩ := p
        intro z H2 w2 l2 S2 rz
        have hl := r.length
        refine ⟨acc, k, keyD_rep ek ry, S2.lent.2, ?_, p2 _ w2 _ (l1.trans l2) S2.relend (RepK.put rz (RepWK.le (l1.trans l2) r))⟩
        have h2 : (1000000 : Nat) < sizeLine := by decide
        have h3 : [(k, d)].length = 1 := rfl
        omega
def mDComp (mi : M (List D)) (go : List D → M (List (Key × D))) (vs : List Nat) : M D := bnd mi fun items => fun s => match go items (wipeS vs s) with
  | .ok ys s' => if Nat.ble ys.length 1000000 then .ok (.dicK (putAll [] ys)) (backS s vs s') else .bad
  | _ => .bad
theorem topD_ok {c : Ct} {B : Bs} {W : WX} {mi : M (List D)} {wi : TI} {is vs : List Nat} {f : D → M Unit} {g : TG} {m : M Bool} {tt : TT} {inner : M (List (Key × D))} {body : Addr → CBody} (hi : ∀ B s σ H w R, Sim c B s σ H w → PostI c B W (mi s) σ w R → wi σ H R)
    (hg : SndG c is f g) (ht : SndT c m tt) (hb : ∀ B a, BodyOkD c B a inner (body a)) (hv : ∀ i ∈ is, i ∈ vs) {s : S} {σ : L2.St} {H : Hp} {w : Wd} {Q : V → Hp → Prop} (S : Sim c B s σ H w) (p : Post c B W (RepW c) (mDComp mi (lcGo f m inner vs) vs s) σ w Q) :
    wi σ H fun J H1 => ∀ a, H1 a = none → LV J (Q (.ref a)) σ g tt vs (body a) (upd H1 a (.dK [])) := by
  refine hi B s σ H w _ S ?_
  unfold mDComp bnd at p
  cases em : mi s with
  | bad => rw [em] at p; exact p
  | exc ex s1 => rw [em] at p; exact p
  | ok items s1 =>
    rw [em] at p
    intro J H1 w1 l1 S1 J1 a ha
    have F0 := S1.free_F ha
    have T0 := S1.free_T ha
    have S2 := (S1.new (o := .dK []) ha).lend (u := .dK []) upd_same F0 T0
    refine lvD_ok (B := B) (accD := []) hg ht (hb B a) hv J1 (w := ⟨w1.F, w1.m, lendT w1.T a⟩) le_T (S2.wipe vs) rfl ?_
    dsimp only at p
    cases eg : lcGo f m inner vs items (wipeS vs s1) with
    | exc ex s2 => simp only [eg] at p; exact p.elim
    | bad => simp only [eg] at p; exact p.elim
    | ok ys s2 =>
      simp only [eg] at p
      split at p
      · rename_i hz
        refine ⟨by have := Nat.le_of_ble_eq_true hz; simp only [List.length_nil]; omega, fun H' w' acc' l' S' r' => ?_⟩
        obtain ⟨l3, S3, h1, h2, h3⟩ := S'.unwipe.unlendF (S1.notPriv T0)
        have l4 : w1.le w' := Wd.le.trans le_T l'
        have S4 := Sim.backS S1 (l4.trans l3) S3 vs
        exact p (.ref a) H' _ (l1.trans (l4.trans (l3.trans (le_newF h2)))) (S4.freeze h1 h2 h3) ⟨a, acc', rfl, .inl upd_same, RepWK.le (l3.trans (le_newF h2)) r'⟩
      · exact p.elim
section
variable {X : Cx} {W : WX} {scope : Scope} {kx vx tg iter : Expr} {ifs : List Expr} {vs : List Nat} {pos : Pos} {is : List Nat} {mi : M (List D)} {f : D → M Unit} {m : M Bool} {mk mv : M D}
theorem de_dc (hN : X.N.Nodup) (own : List (Str × Nat)) (ok : BlkOk X.N X.env.scope scope own) (hi : DI X W tg iter mi) (hg : ∀ b, DG (bx X scope b) tg is f) (ht : ∀ b, DTs (bx X scope b) WF ifs m) (hk : ∀ b, DE (bx X scope b) WF kx mk) (he : ∀ b, DE (bx X scope b) WF vx mv)
    (hvs : own.map (·.2) = vs := by rfl) (hv : ∀ i ∈ is, i ∈ vs := by decide) (hc : X.calm = true := by rfl) (hs : ∀ x, foldedSetIterable iter X.env x = pure x := by intro _; rfl) :
    DE X W (.DictComp kx vx [⟨tg, iter, ifs, 0⟩] scope pos) (mDComp mi (lcGo f m (dcOne mk mv) vs) vs) := by
  obtain ⟨wi, pi, ki⟩ := hi
  obtain ⟨g, pg, kg⟩ := uniG hc hg
  obtain ⟨tt, pt, kt⟩ := uniT hc ht
  obtain ⟨tk, pk, kk⟩ := uniE hc hk
  obtain ⟨te, pe, ke⟩ := uniE hc he
  refine de_of (pe_dc hc hN pi ok pg pt pk pe hs) fun B s σ H w Q S p => ?_
  rw [hvs]
  exact topD_ok (body := leafD tk te) ki kg kt (fun B a => leafD_ok kk ke) hv S p
end
end DM
set_option Elab.async false
set_option linter.all false
set_option maxRecDepth 100000
set_option maxHeartbeats 1000000
namespace DM
open PySem PySem.Spec PyProof.Rows L2
theorem exmOf_ok {X : Cx} {tab : List ((Str × Str) × Bool)} (h : ∀ p ∈ tab, X.mg p.1.1 = some (.ref (He.ga X.K p.1.1)) ∧ X.mg p.1.2 = some (.ref (He.ga X.K p.1.2)) ∧ PySem.W.exmOne X.K (.ref (He.ga X.K p.1.1)) (.ref (He.ga X.K p.1.2)) = some p.2) : ExmOk X (exmOf tab) := by
  intro n1 n2 b C1 C2 e h1 h2
  have mem : ∀ {l : List ((Str × Str) × Bool)}, l.lookup (n1, n2) = some b → ((n1, n2), b) ∈ l := by
    intro l
    induction l with
    | nil => intro q; cases q
    | cons p l ih =>
      intro q
      obtain ⟨k, v⟩ := p
      rw [List.lookup_cons] at q
      split at q
      · rename_i hk
        have hk' : (n1, n2) = k := eq_of_beq hk
        cases q
        rw [hk']
        exact List.mem_cons_self
      · exact List.mem_cons_of_mem _ (ih q)
  obtain ⟨e1, e2, e3⟩ := h _ (mem e)
  have e1' : X.mg n1 = some (.ref (He.ga X.K n1)) := e1
  have e2' : X.mg n2 = some (.ref (He.ga X.K n2)) := e2
  rw [e1'] at h1
  rw [e2'] at h2
  cases h1
  cases h2
  exact e3
structure RdyC (P : Program) (w : World) (K : PySem.W.Frag) (mg : Str → Option Value) (base : Heap) (k : Nat) (x : Str) (n : Nat) (F : Fn) : Prop where
  ex : ∃ C f fd ps, Mk K C f ∧ FnG P w K mg base k f fd ps (spDI ⟨K, mg, none⟩ x ps.length F) ∧ mg x = some (.ref C) ∧ Binds K fd ps [] ∧ ps.length = n + 1
structure ExcR (K : PySem.W.Frag) (mg : Str → Option Value) (x : Str) : Prop where
  ex : ∃ C, PySem.W.excIn K C He.veBase "ValueError.__new__" = true ∧ mg x = some (.ref C) ∧ PySem.W.keepIn K (.ref C) = true ∧ PySem.W.subIn K (.ref C) (.type "BaseException") = some true ∧ PySem.W.typeIn K (.ref C) = some (.type "type")
structure ExcI (P : Program) (w : World) (K : PySem.W.Frag) (mg : Str → Option Value) (base : Heap) (k : Nat) (x f : Str) : Prop where
  ex : ∃ C fI fd ps, OexC K C ∧ PySem.W.findIn K (.ref C) "__init__" = some (some (.ref fI)) ∧ PySem.W.typeIn K (.ref fI) = some (.type "function") ∧ FnOk P w K mg base (L2.CX P w) k fI fd ps (spI1 f C) ∧ Binds K fd ps [] ∧ mg x = some (.ref C)
section
variable {X : Cx} {W : WX}
theorem de_makeR {j k n : Nat} {x : Str} {F : Fn} {e : Expr} {es : List Expr} {m : M (List D)} {p pos : Pos} (R : RdyC X.prog X.w X.K X.mg X.base j x n F) (hr : RG k X.A) (tk : Takes X W) (ha : DA X W (e :: es) m) (hm2 : ∀ s d s', m s = .ok d s' → d.length = (e :: es).length)
    (hjk : j + 1 ≤ k := by decide) (hn : n = (e :: es).length := by rfl) (hc : X.calm = true := by rfl) (hg : Gl X x := by rfl) (hdb : (x == ("__debug__" : Str)) = false := by decide)
    (he : starEach (e :: es) X.env = (false, eval e X.env) :: starEach es X.env := by rfl) (hpl : (backTo pos (starEach es X.env)).any (·.1) = false := by rfl) : DE X W (.Call (.Name x p) (e :: es) [] pos) (mCall F m) := by
  obtain ⟨C, f, fd, ps, h1, h2, h3, h4, h5⟩ := R.ex
  exact de_make h1 h2 (hr.mono hjk) h3 h4 tk ha (by rw [h5, hn]) hm2 hc hg hdb he hpl
theorem dx_ownR {x m : Str} {j : Nat} {p p2 pos : Pos} (R : ExcR X.K X.mg x) (hg : Gl X x := by rfl) (hdb : (x == ("__debug__" : Str)) = false := by decide) : DX X W (.Call (.Name x p) [.Constant (.str m) j p2] [] pos) (ret ⟨x, []⟩) := by
  obtain ⟨C, h1, h2, h3, h4, h5⟩ := R.ex
  exact dx_own PySem.F.excBase_ValueError h1 h2 h3 (raises_own h4 h5) hg hdb
theorem dx_initR {j k : Nat} {x f : Str} {e : Expr} {m : M D} {p pos : Pos} (R : ExcI X.prog X.w X.K X.mg X.base j x f) (hr : RG k X.A) (h : DE X W e m) (hjk : j + 1 ≤ k := by decide)
    (hg : Gl X x := by rfl) (hdb : (x == ("__debug__" : Str)) = false := by decide) (he : starEach [e] X.env = (false, eval e X.env) :: starEach [] X.env := by rfl) (hpl : (backTo pos (starEach [] X.env)).any (·.1) = false := by rfl) :
    DX X W (.Call (.Name x p) [e] [] pos) (bnd m (mkI1 x f)) := by
  obtain ⟨C, fI, fd, ps, h1, h2, h3, h4, h5, h6⟩ := R.ex
  exact dx_init1 h1 h2 h3 h4 (hr.mono hjk).rm h5 passL h6 h hg hdb he hpl
def mNeg (m : M D) : M D := bnd m fun d => match d with
  | .int i => ret (.int (-i))
  | _ => bad
theorem de_neg {e : Expr} {m : M D} {pos : Pos} (h : DE X W e m) : DE X W (.UnaryOp .USub e pos) (mNeg m) := by
  obtain ⟨t, ht, k⟩ := h
  refine de_of (pe_un un_neg ht) fun B s σ H w Q S p => k B s σ H w _ S (post_bnd p fun d s1 x H1 w1 _ l1 S1 r1 p1 => ?_)
  cases d with
  | int i => exact ⟨i, r1, post_ret p1 (Wd.le.refl w1) S1 rfl⟩
  | _ => exact p1.elim
end
end DM
set_option Elab.async false
set_option linter.all false
set_option maxRecDepth 100000
set_option maxHeartbeats 1000000
namespace DM
open PySem PySem.Spec PyProof.Rows L2
structure IniB (K : PySem.W.Frag) (mg : Str → Option Value) (x : Str) : Prop where
  ex : ∃ C, mg x = some (.ref C) ∧ PySem.W.readsIn K C (.type "type") = true ∧ PySem.W.specialIn K (.ref C) "__getattribute__" = some (some (.builtin "type.__getattribute__")) ∧ PySem.W.findCls K (.ref C) (.type "type") "__init__" = some (.val (.builtin "ValueError.__init__"))
section
variable {X : Cx} {e : Expr} {es : List Expr} {ta : TA} {x : Str} {p1 p2 pos : Pos}
theorem pe_ownInit {pl : Sem Bool} (hB : IniB X.K X.mg x) (ha : PA X (e :: es) ta) (hg : Gl X x := by rfl) (hdb : (x == ("__debug__" : Str)) = false := by decide)
    (hc : eval (.Call (.Attribute (.Name x p1) "__init__" p2) (e :: es) [] pos) X.env = (do
      let ov ← eval (.Name x p1) X.env
      standAt p2.atName
      let (f, first) ← holding [ov] (getMethod ov "__init__" pl)
      callWith pos f first (backTo pos (starEach (e :: es) X.env)) (backToKw pos (keywordEach [] X.env))) := by rfl)
    (he : starEach (e :: es) X.env = (false, eval e X.env) :: starEach es X.env := by rfl) (hpl : (backTo pos (starEach es X.env)).any (·.1) = false := by rfl) :
    PE X (.Call (.Attribute (.Name x p1) "__init__" p2) (e :: es) [] pos) (tVeI X.K ta) := by
  refine ⟨fun pins s σ H Q I h => ?_⟩
  obtain ⟨C, hm, hr, hsp, hf⟩ := hB.ex
  refine PySem.W.methodCall_KW (ld_glob I hg hm ?_ hdb) hc
  refine PySem.W.method_cls I.kIn hsp (PySem.W.cls_value I.kIn hr hf (by decide +kernel) ?_)
  show wpAny _ _ (callWith pos (Value.builtin "ValueError.__init__") [] (backTo pos (starEach (e :: es) X.env)) []) _ _ _
  refine PyProof.Rows.callWith_method1 (thn (ha.run pos pins _ σ H _ (I.tok _) h) fun us s1 hh => ?_) he hpl
  obtain ⟨vs, H1, I1, r1, a, C1, ws, ev, hl, T, ea, q⟩ := hh
  subst ev
  cases r1 with
  | @cons _ u0 _ ur ra rw' =>
    obtain rfl : u0 = Value.ref a := ra
    have hlen : ur.length ≤ sizeLine := by
      rw [← Paired.length rw', sizeLine_eq]
      omega
    exact oinit_ok T I1 ea hlen fun s' J => ⟨.non, H1, J, rfl, q⟩
end
end DM
set_option Elab.async false
set_option linter.all false
set_option maxRecDepth 100000
set_option maxHeartbeats 2000000
namespace DM
open PySem PySem.Spec PyProof.Rows L2
theorem oex_ok {K : PySem.W.Frag} {x : Str} (h : fOex x K = true) : OexC K (He.ga K x) := by
  unfold fOex at h
  obtain ⟨h0, h1⟩ := He.ba h
  obtain ⟨h2, h3⟩ := He.ba h1
  obtain ⟨h4, h5⟩ := He.ba h3
  obtain ⟨h6, h7⟩ := He.ba h5
  refine ⟨?_, He.eqO_ok h2, of_decide_eq_true h4, of_decide_eq_true h6, h7⟩
  split at h0
  · rename_i od cd sl hl
    split at h0
    · rename_i C' bm k0 k1 k2 k3 n k5 hm hs
      obtain ⟨g1, g2⟩ := He.ba h0
      obtain ⟨g3, g4⟩ := He.ba g2
      obtain ⟨g5, g6⟩ := He.ba g4
      obtain ⟨g7, g8⟩ := He.ba g6
      have e1 : C' = He.ga K x := eq_of_beq g1
      have e2 : n = "ValueError.__new__" := eq_of_beq g3
      have e5 : cd.hasDel = false := by simpa using g5
      obtain ⟨nm, bs, mro, ns, qn, hd, sn, sub, ab, col, del⟩ := cd
      dsimp only at hm e5 g7
      have e7 : hd = true := g7
      have hsl : sl = #[k0, k1, k2, k3, some (.builtin n), k5] := by
        obtain ⟨l⟩ := sl
        simp only at hs
        rw [hs]
      subst hm e5 e7 hsl e2
      refine ⟨nm, qn, ns, bs, bm, sn, sub, ab, col, od, k0, k1, k2, k3, k5, ?_, g8⟩
      rw [hl, ← e1] <;> rfl
    · cases h0
  · cases h0
theorem ini_ok {K : PySem.W.Frag} {h : Heap} {mg : Str → Option Value} (X : K.In h) (G : h.Ns mainGlobals mg) {x : Str} (c : fIni x K = true) : IniB K mg x := by
  unfold fIni at c
  obtain ⟨c1, c⟩ := He.ba c
  obtain ⟨c2, c⟩ := He.ba c
  obtain ⟨c3, c4⟩ := He.ba c
  refine ⟨He.ga K x, PySem.W.mg_of X G (He.eqO_ok c1), c2, He.eqO_ok c3, ?_⟩
  split at c4
  · rename_i n e
    rw [e, of_decide_eq_true c4]
  · cases c4
theorem exmT_all {K : PySem.W.Frag} {h : Heap} {mg : Str → Option Value} (X : K.In h) (G : h.Ns mainGlobals mg) {tab : List ((Str × Str) × Bool)} (c : fExm tab K = true) :
    ∀ p ∈ tab, mg p.1.1 = some (.ref (He.ga K p.1.1)) ∧ mg p.1.2 = some (.ref (He.ga K p.1.2)) ∧ PySem.W.exmOne K (.ref (He.ga K p.1.1)) (.ref (He.ga K p.1.2)) = some p.2 := fun p hp => by
  have q := List.all_eq_true.mp c p hp
  obtain ⟨q1, q⟩ := He.ba q
  obtain ⟨q2, q3⟩ := He.ba q
  exact ⟨He.glo_ok X G q1, He.glo_ok X G q2, He.exm_ok q3⟩
theorem excR_ok {K : PySem.W.Frag} {h : Heap} {mg : Str → Option Value} (X : K.In h) (G : h.Ns mainGlobals mg) {x : Str} (c : (He.Fa.exc x).ok K = true) (g : (He.Fa.glo x).ok K = true) : ExcR K mg x := by
  obtain ⟨c1, c2, c3, c4⟩ := He.exc_ok c
  exact ⟨_, c1, He.glo_ok X G g, c2, c3, c4⟩
end DM
set_option Elab.async false
set_option linter.all false
set_option maxRecDepth 100000
set_option maxHeartbeats 2000000
namespace DM
open PySem PySem.Spec PyProof.Rows L2
theorem no_exc {P : Program} {w : World} {outer : List Env} {H : Hp} {s s' : Shared} {e : Value} (h : L2.CX P w outer H s (fun _ _ _ => False) e s') : False := by
  obtain ⟨_, _, _, _, _, _, _, _, _, _, _, _, z⟩ := h
  exact z.elim
abbrev LawEnd (s1 : Shared) (r : Result) (s' : Shared) : Prop := r = .ok (.ret (.bool true)) ∧ OldK s1.heap s'.heap ∧ s'.os = s1.os ∧ AllBare s'.gens
theorem lawG {P : Program} {w : World} {K : PySem.W.Frag} {mg mb : Str → Option Value} {k : Nat} {fa a : Addr} {fd : FuncData} {x : Str} {sp : Sp} {s1 : Shared} {vs : List Value} {ns : List Int}
    (KX : K.In s1.heap) (hns : s1.heap.Ns mainGlobals mg) (hb : s1.heap.Ns builtinsNs mb) (hbb : ∀ y : Str, y ≠ "__name__" → mb y = bootBuiltins y) (hlim : s1.heap.NoLimit) (hg : s1.gens = #[])
    (ha : s1.heap.get? a = some { cls := .type "list", data := .seq vs.toArray }) (hi : IntsAre vs ns) (hl : ns.length ≤ sizeLine) (hr : RG k callerA)
    (F : ∀ base : Heap, K.In base → base.Ns mainGlobals mg → FnG P w K mg base k fa fd [x] sp) (hbind : ∀ (s : Shared) (u : Value), BindsTo s fd ⟨[u], []⟩ [(x, u)])
    (hsp : ∀ H : Hp, Only H → SqL K H a (ns.map V.int) → sp [.ref a] H (fun v _ => v = .bl true) fun _ _ _ => False) :
    codeAny (model P w) callerA (.call (.ref fa) ⟨[.ref a], []⟩) (LawEnd s1) s1 := by
  -- no more than the script is tracked
  have core : ∀ H : Hp, Only H → SqL K H a (ns.map V.int) → HOk P w H s1.heap → (∀ b, H b ≠ none → b = a) → (H a ≠ none → K.lookup a = none) → codeAny (model P w) callerA (.call (.ref fa) ⟨[.ref a], []⟩) (LawEnd s1) s1 := by
    intro H hO hS hok only hK
    have loose : ∀ {b : Addr} {u : Obj}, s1.heap.get? b = some u → (∀ e n, u ≠ { cls := .type "list", data := .seq e n }) → H b = none := fun {b u} eu nl => by
      cases q : H b with
      | none => rfl
      | some v =>
        have eb : b = a := only b (by rw [q]; simp)
        subst eb
        rw [ha] at eu
        cases eu
        exact absurd rfl (nl _ _)
    have nsB : ∀ {b : Addr} {m : Str → Option Value}, s1.heap.Ns b m → (hidT s1.heap H).Ns b m := fun {b m} z => by
      obtain ⟨o, es, ep, eo, ed, r⟩ := z
      refine ⟨o, es, ep, hidT_get eo (loose eo fun e n q => ?_), ed, r⟩
      rw [q] at ed
      cases ed
    have inB : K.In (hidT s1.heap H) := fun b o e => hidT_get (KX b o e) (by
      cases q : H b with
      | none => rfl
      | some v =>
        have eb : b = a := only b (by rw [q]; simp)
        subst eb
        rw [hK (by rw [q]; simp)] at e
        cases e)
    have md : Mod K mg (hidT s1.heap H) := ⟨inB, nsB hns, ⟨mb, nsB hb, hbb⟩, let ⟨mc, z1, z2⟩ := hlim; ⟨mc, nsB z1, z2⟩⟩
    have e0 : Env0 P w K mg (hidT s1.heap H) callerA [] s1 H := ⟨rfl, md, fun b o e => of_hidT e, Nat.le_of_eq (hidT_size _ _), trivial, fun b z => absurd (show b ∈ ([] : List Addr) from z) (by simp), hok, .of_eq hg⟩
    refine codeAny_mono ((F _ inB (nsB hns)).run callerA [] s1 H ⟨[.ref a], []⟩ [.ref a] [.ref a] _ _ hr e0 (hbind s1 (.ref a)) (.cons rfl .nil) (hsp H hO hS)) fun r s' back => ?_
    cases r with
    | error er => exact (no_exc back).elim
    | ok fl =>
      cases fl with
      | ret u =>
        obtain ⟨v, H', os, bare, un, hok', rv, ev⟩ := back
        have ev' : v = .bl true := ev
        subst ev'
        obtain rfl : u = Value.bool true := rv
        refine ⟨rfl, OldK.of_keep fun b o eo => ?_, os, bare⟩
        cases q : H b with
        | none => exact un.keep b o eo q (fun z => absurd (show b ∈ ([] : List Addr) from z) (by simp)) (by simp)
        | some u =>
          rcases hO b with z | ⟨ob, xs, z⟩
          · rw [q] at z; cases z
          · obtain ⟨k1, _⟩ := hok b _ z
            obtain ⟨k2, _⟩ := hok' b _ (un.frzs b ob _ z)
            rw [eo] at k1
            cases k1
            exact k2
      | next => exact False.elim back
      | brk => exact False.elim back
      | cont => exact False.elim back
  have count := hi.length
  have relv := vals_ints hi
  cases hk : K.lookup a with
  | some o =>
    have eo := KX a o hk
    rw [ha] at eo
    cases eo
    exact core (fun _ => none) (fun _ => .inl rfl) (.inr ⟨_, vs.toArray, _, hk, rfl, rfl, rfl, by rw [List.size_toArray, count]; exact hl, by simpa using relv⟩) (fun b u z => nomatch (show (none : Option HO) = some u from z)) (fun b z => absurd rfl z) fun z => absurd rfl z
  | none =>
    refine core (fun b => if b = a then some (.frz { cls := .type "list", data := .seq vs.toArray } (.lst (ns.map V.int))) else none) (fun b => ?_) (.inl (.inr ⟨{ cls := .type "list", data := .seq vs.toArray }, if_pos rfl⟩)) (fun b u z => ?_) (fun b z => ?_) fun _ => hk
    · by_cases e : b = a
      · exact .inr ⟨_, _, if_pos e⟩
      · exact .inl (if_neg e)
    · by_cases e : b = a
      · have z2 := (if_pos e).symm.trans z
        cases z2
        rw [e]
        exact ⟨ha, by rw [List.length_map]; exact hl, vs, _, relv, ha⟩
      · have z2 := (if_neg e).symm.trans z
        cases z2
    · by_cases e : b = a
      · exact e
      · exact absurd (if_neg e) z
theorem walkG {l : PySem.W.OpenLaw} {n k : Nat} {q : Program} {loose : List Str} {XP : (Str → Option Value) → Heap → Prop} {YP : World → Heap → Prop} {d : DefRec} {x : Str}
    (hn : l.most = some n) (hn2 : n ≤ sizeLine) (hdf : d.params.defaults = []) (hr : RG k callerA)
    (F : ∀ (w : World) (mg : Str → Option Value) (fa : Addr) (h : Heap), YP w h → h.Ns mainGlobals mg → mg d.name = some (.ref fa) →
      ∃ (K : PySem.W.Frag) (fd : FuncData) (sp : Sp), K.In h ∧ (∀ (s : Shared) (u : Value), BindsTo s fd ⟨[u], []⟩ [(x, u)]) ∧
        (∀ (H : Hp) (a : Addr) (ns : List Int), ns.length ≤ n → (∀ z ∈ ns, Builtin.Int.intBits z ≤ 1048576) → Only H → SqL K H a (ns.map V.int) → sp [.ref a] H (fun v _ => v = .bl true) fun _ _ _ => False) ∧
        ∀ base : Heap, K.In base → base.Ns mainGlobals mg → FnG l.prog w K mg base k fa fd [x] sp) :
    PySem.W.WalkO q loose XP YP l.row.toRowW d [] (fun f vs => PySem.call f vs) := by
  refine Att.attach_callB hn hdf fun w s0 s1 mg mb fa o pm cd doc a vs ns G Y ho hd hcd hmg hobj hints hlen hbits hg => ?_
  obtain ⟨K, fd, sp, KX, hb, hsp, hF⟩ := F w mg fa _ Y G.T.g hmg
  exact lawG KX G.T.g G.T.b G.T.builtins G.T.nolimit hg hobj hints (Nat.le_trans hlen hn2) hr hF hb fun H hO hS => hsp H a ns hlen hbits hO hS
def LawTrue (F : Fn) : Prop := ∀ ns : List Int, ns.length ≤ 63 → (∀ z ∈ ns, Builtin.Int.intBits z ≤ 1048576) → ∃ cells, F [.scr ns] [] = .ok (.bl true) cells
theorem spD_of {K : PySem.W.Frag} {mg : Str → Option Value} {F : Fn} (h : LawTrue F) {H : Hp} {a : Addr} {ns : List Int} (hl : ns.length ≤ 63) (hb : ∀ z ∈ ns, Builtin.Int.intBits z ≤ 1048576) (hS : SqL K H a (ns.map V.int)) :
    spD ⟨K, mg, none⟩ 1 F [.ref a] H (fun v _ => v = .bl true) fun _ _ _ => False := by
  obtain ⟨cells, e⟩ := h ns hl hb
  refine ⟨rfl, [.scr ns], [], ⟨H, [], fun _ => none⟩, ⟨_, [], rfl, ⟨a, rfl, hS⟩, rfl⟩, ⟨Sub.refl _, (fun _ _ z => by cases z), rfl, (fun n cl z => by cases z)⟩, ?_⟩
  rw [e]
  exact fun x H' w' _ _ _ r => r
end DM
set_option Elab.async false
set_option linter.all false
set_option maxRecDepth 100000
set_option maxHeartbeats 0
section
open PySem PySem.W PySem.Calls PyProof.Rows L2 DM
theorem K55.holds_of (HG : ∀ {K : PySem.W.Frag} {h : Heap} {mg : Str → Option Value}, K.In h → h.Ns mainGlobals mg → DM.SaysX K55.fbs K55.fns K →
    ∃ (fd : FuncData) (F : DM.Fn), mg "law" = some (.ref (He.fAd K ("law", none))) ∧ (∀ (s : Shared) (u : Value), BindsTo s fd ⟨[u], []⟩ [("script", u)]) ∧ DM.LawTrue F ∧
      ∀ (w : World) (base : Heap), K.In base → base.Ns mainGlobals mg → DM.FnD K55.PP w K mg base 8 (He.fAd K ("law", none)) fd ["script"] F) : PySem.Challenge.rw_skidblame_k55_mends_refused.Holds := by
  w_on; o_law
  refine HandSHeadRun.head_any (r := OpenLaw.row PySem.Challenge.rw_skidblame_k55_mends_refused) (q := view (OpenLaw.row PySem.Challenge.rw_skidblame_k55_mends_refused).prog [88]) (H := K55.hk) (ob := K55.ob) (M := 6000) (loose := K55.nms) (d := HandSHeadRun.topDef (OpenLaw.row PySem.Challenge.rw_skidblame_k55_mends_refused).prog 88) (kwd := []) K55.ob_eq
    (by kernel_rfl) (fun s => by kernel_rfl) K55.run (by kernel_rfl) (by kernel_rfl) (by kernel_rfl) (by rfl) (by first | assumption | decide +kernel) (by decide +kernel) ⟨rfl, rfl, rfl, rfl, rfl, by decide +kernel⟩ ?hw ?hc
  case hw => w_witness2
  case hc =>
    refine DM.walkG (l := PySem.Challenge.rw_skidblame_k55_mends_refused) (n := 63) (k := 8) (x := "script") rfl (by decide) (by kernel_rfl) ⟨⟨rfl, by decide, by decide⟩, rfl⟩ ?F
    intro w mg fa h Y G hmg0
    obtain ⟨K, KX, c⟩ := Y
    have e : (HandSHeadRun.topDef (OpenLaw.row PySem.Challenge.rw_skidblame_k55_mends_refused).prog 88).name = ("law" : PySem.Str) := by kernel_rfl
    have hmg : mg ("law" : PySem.Str) = some (.ref fa) := by
      rw [← e]
      exact hmg0
    obtain ⟨fd, F, f_law, hb, lt, hD⟩ := HG KX G c
    have e2 := hmg.symm.trans f_law
    cases e2
    exact ⟨K, fd, DM.spD ⟨K, mg, none⟩ 1 F, KX, hb, fun H a ns hl hb _ hS => DM.spD_of lt hl hb hS, fun base kb nb => hD w base kb nb⟩
end
set_option Elab.async false
set_option linter.all false
set_option maxRecDepth 100000
set_option maxHeartbeats 1000000
namespace DM
open PySem
inductive All2 {α β : Type} (R : α → β → Prop) : List α → List β → Prop
  | nil : All2 R [] []
  | cons {a : α} {b : β} {as : List α} {bs : List β} (h : R a b) (t : All2 R as bs) : All2 R (a :: as) (b :: bs)
theorem All2.length {α β : Type} {R : α → β → Prop} : ∀ {as : List α} {bs : List β}, All2 R as bs → as.length = bs.length
  | _, _, .nil => rfl
  | _, _, .cons _ t => by rw [List.length_cons, List.length_cons, t.length]
section
variable {α β : Type} {s s' : S} {m : M α} {f : α → M β} {a : α}
theorem bnd_ok (h : m s = .ok a s') : bnd m f s = f a s' := by unfold bnd; rw [h]
theorem bnd_exc {e : Exc} (h : m s = .exc e s') : bnd m f s = .exc e s' := by unfold bnd; rw [h]
theorem mSeq_nx {a b : MS} (h : a s = .ok .nx s') : mSeq a b s = b s' := by unfold mSeq; rw [h]
theorem mSeq_rt {a b : MS} {d : D} (h : a s = .ok (.rt d) s') : mSeq a b s = .ok (.rt d) s' := by unfold mSeq; rw [h]
theorem mSeq_exc {a b : MS} {e : Exc} (h : a s = .exc e s') : mSeq a b s = .exc e s' := by unfold mSeq; rw [h]
theorem mIfS_t {t : M Bool} {a b : MS} (h : t s = .ok true s') : mIfS t a b s = a s' := by unfold mIfS bnd; rw [h] <;> rfl
theorem mIfS_f {t : M Bool} {a b : MS} (h : t s = .ok false s') : mIfS t a b s = b s' := by unfold mIfS bnd; rw [h] <;> rfl
theorem mExpr_ok {m : M D} {d : D} (h : m s = .ok d s') : mExpr m s = .ok .nx s' := by unfold mExpr bnd; rw [h] <;> rfl
theorem mExpr_exc {m : M D} {e : Exc} (h : m s = .exc e s') : mExpr m s = .exc e s' := by unfold mExpr bnd; rw [h]
theorem mRet_ok {m : M D} {d : D} (h : m s = .ok d s') : mRet m s = .ok (.rt d) s' := by unfold mRet bnd; rw [h]
theorem mSet_ok {i : Nat} {m : M D} {d : D} (h : m s = .ok d s') : mSet i m s = .ok .nx ⟨s'.env.set i (some (.val d)), s'.cells⟩ := by unfold mSet bnd; rw [h]
theorem mCall_ok {F : Fn} {m : M (List D)} {ds : List D} {d : D} {cells : List Cell} (h : m s = .ok ds s') (k : F ds s'.cells = .ok d cells) : mCall F m s = .ok d ⟨s'.env, cells⟩ := by unfold mCall bnd; rw [h]; simp only [k]
theorem mCall_exc {F : Fn} {m : M (List D)} {ds : List D} {e : Exc} {cells : List Cell} (h : m s = .ok ds s') (k : F ds s'.cells = .exc e cells) : mCall F m s = .exc e ⟨s'.env, cells⟩ := by unfold mCall bnd; rw [h]; simp only [k]
theorem mCons_ok {m : M D} {r : M (List D)} {d : D} {ds : List D} {s1 : S} (h : m s = .ok d s1) (k : r s1 = .ok ds s') : mCons m r s = .ok (d :: ds) s' := by
  unfold mCons bnd
  rw [h]
  simp only [k]
  rfl
theorem mCons_nil {m : M D} {d : D} (h : m s = .ok d s') : mCons m mNil s = .ok [d] s' := mCons_ok h rfl
theorem mOp_ok {o : O2} {ma mb : M D} {a b d : D} {s1 : S} (h : ma s = .ok a s1) (k : mb s1 = .ok b s') (e : o (deref s' a) (deref s' b) = some d) : mOp o ma mb s = .ok d s' := by
  unfold mOp
  rw [bnd_ok h, bnd_ok k]
  simp only [e, fin]
theorem mOpE_ok {o : O2} {ma : M D} {j : Nat} {a b d : D} (h : ma s = .ok a s') (k : peek s' j = some b) (e : o (deref s' a) b = some d) : mOpE o ma j s = .ok d s' := by
  unfold mOpE
  rw [bnd_ok h]
  simp only [k, e, fin]
theorem mOpN_ok {o : O2} {i : Nat} {mb : M D} {a a0 b d : D} (h0 : peek s i = some a0) (h : mb s = .ok b s') (k : peek s' i = some a) (e : o a (deref s' b) = some d) : mOpN o i mb s = .ok d s' := by
  unfold mOpN
  simp only [h0]
  rw [bnd_ok h]
  simp only [k, e, fin]
theorem mOpB_ok {o : O2} {i j : Nat} {a b d : D} (h : peek s i = some a) (k : peek s j = some b) (e : o a b = some d) : mOpB o i j s = .ok d s := by
  unfold mOpB
  simp only [h, k, e, fin]
theorem mCallS_ok {o : OC} {m : M (List D)} {ds : List D} {d : D} (h : m s = .ok ds s') (e : o ds = some d) : mCallS o m s = .ok d s' := by
  unfold mCallS
  rw [bnd_ok h]
  simp only [e, fin]
theorem mArgs_ok {m : M (List D)} {ds : List D} (h : m s = .ok ds s') : mArgs m s = .ok (ds.map (deref s')) s' := by
  unfold mArgs
  rw [bnd_ok h]
theorem mB_ok {m : M D} {b : Bool} (h : m s = .ok (.bl b) s') : mB m s = .ok b s' := by
  unfold mB
  rw [bnd_ok h] <;> rfl
theorem mIf_t {α : Type} {t : M Bool} {a b : M α} (h : t s = .ok true s') : mIf t a b s = a s' := by unfold mIf; rw [bnd_ok h] <;> rfl
theorem mIf_f {α : Type} {t : M Bool} {a b : M α} (h : t s = .ok false s') : mIf t a b s = b s' := by unfold mIf; rw [bnd_ok h] <;> rfl
theorem mTup_ok {m : M (List D)} {ds : List D} (h : m s = .ok ds s') (k : small ds = true) : mTup m s = .ok (.tup ds) s' := by unfold mTup; rw [bnd_ok h, if_pos k] <;> rfl
theorem mLst_ok {m : M (List D)} {ds : List D} (h : m s = .ok ds s') (k : small ds = true) : mLst m s = .ok ds s' := by unfold mLst; rw [bnd_ok h, if_pos k] <;> rfl
theorem mAsg_ok {f : D → M Unit} {m : M D} {d : D} {s1 : S} (h : m s = .ok d s1) (k : f d s1 = .ok () s') : mAsg f m s = .ok .nx s' := by unfold mAsg; rw [bnd_ok h]; simp only [k]
theorem runFn_rt {n : Nat} {b : MS} {ds : List D} {cells : List Cell} {d : D} (h : b ⟨ds.map (fun d => some (.val d)) ++ List.replicate (n - ds.length) none, cells⟩ = .ok (.rt d) s') : runFn n b ds cells = .ok d s'.cells := by unfold runFn; rw [h]
theorem runFn_nx {n : Nat} {b : MS} {ds : List D} {cells : List Cell} (h : b ⟨ds.map (fun d => some (.val d)) ++ List.replicate (n - ds.length) none, cells⟩ = .ok .nx s') : runFn n b ds cells = .ok .non s'.cells := by unfold runFn; rw [h]
theorem runFn_exc {n : Nat} {b : MS} {ds : List D} {cells : List Cell} {e : Exc} (h : b ⟨ds.map (fun d => some (.val d)) ++ List.replicate (n - ds.length) none, cells⟩ = .exc e s') : runFn n b ds cells = .exc e s'.cells := by unfold runFn; rw [h]
end
theorem forGo_all {f : D → M Unit} {body : MS} (I : List D → S → Prop) (h : ∀ d ds s, I (d :: ds) s → ∃ s1 s2, f d s = .ok () s1 ∧ (body s1 = .ok .nx s2 ∨ body s1 = .ok .ct s2) ∧ I ds s2) : ∀ (ds : List D) (s : S), I ds s → ∃ s', forGo f body ds s = .ok .nx s' ∧ I [] s'
  | [], s, hi => ⟨s, rfl, hi⟩
  | d :: ds, s, hi => by
    obtain ⟨s1, s2, h1, h2, h3⟩ := h d ds s hi
    obtain ⟨s3, h4, h5⟩ := forGo_all I h ds s2 h3
    refine ⟨s3, ?_, h5⟩
    unfold forGo
    rw [h1]
    rcases h2 with h2 | h2 <;> (simp only [h2]; exact h4)
theorem lcGo_all {α : Type} {f : D → M Unit} {tt : M Bool} {inner : M (List α)} {vs : List Nat} (I : S → Prop) (P : D → Prop) (g : D → List α → Prop)
    (h : ∀ d s, P d → I s → ∃ s1 s2, f d s = .ok () s1 ∧ ((tt s1 = .ok false s2 ∧ g d [] ∧ I (wipeS vs s2)) ∨ ∃ s3 xs, tt s1 = .ok true s2 ∧ inner s2 = .ok xs s3 ∧ g d xs ∧ I (wipeS vs s3))) :
    ∀ (ds : List D) (s : S), (∀ d ∈ ds, P d) → I s → ∃ (xss : List (List α)) (s' : S), lcGo f tt inner vs ds s = .ok xss.flatten s' ∧ I s' ∧ All2 g ds xss
  | [], s, _, hi => ⟨[], s, rfl, hi, .nil⟩
  | d :: ds, s, hp, hi => by
    obtain ⟨s1, s2, h1, h2⟩ := h d s (hp d List.mem_cons_self) hi
    rcases h2 with ⟨h2, h3, h4⟩ | ⟨s3, xs, h2, h5, h3, h4⟩
    · obtain ⟨xss, s', k1, k2, k3⟩ := lcGo_all I P g h ds _ (fun d hd => hp d (List.mem_cons_of_mem _ hd)) h4
      refine ⟨[] :: xss, s', ?_, k2, .cons h3 k3⟩
      unfold lcGo
      simp only [h1, h2]
      exact k1
    · obtain ⟨xss, s', k1, k2, k3⟩ := lcGo_all I P g h ds _ (fun d hd => hp d (List.mem_cons_of_mem _ hd)) h4
      refine ⟨xs :: xss, s', ?_, k2, .cons h3 k3⟩
      unfold lcGo
      simp only [h1, h2, h5, k1]
      rfl
end DM
set_option Elab.async false
set_option linter.all false
set_option maxRecDepth 100000
set_option maxHeartbeats 1000000
namespace DM
open PySem
def grd (p : Prop) : Prop := p
@[irreducible] def wp {α : Type} (m : M α) (s : S) (Q : α → S → Prop) (E : Exc → S → Prop) : Prop := match m s with
  | .ok a s' => Q a s'
  | .exc e s' => E e s'
  | .bad => False
@[irreducible] def wpF (F : Fn) (ds : List D) (cells : List Cell) (Q : D → List Cell → Prop) (E : Exc → List Cell → Prop) : Prop := match F ds cells with
  | .ok d c => Q d c
  | .exc e c => E e c
  | .bad => False
abbrev NoE {β : Type} : Exc → β → Prop := fun _ _ => False
section
variable {α β : Type} {s : S} {m : M α} {Q Q' : α → S → Prop} {E E' : Exc → S → Prop}
theorem wp.imp (h : wp m s Q E) (q : ∀ a s', Q a s' → Q' a s') (e : ∀ x s', E x s' → E' x s') : wp m s Q' E' := by
  with_unfolding_all
    unfold wp at h ⊢
    cases hm : m s with
    | ok a s' => rw [hm] at h; exact q _ _ h
    | exc x s' => rw [hm] at h; exact e _ _ h
    | bad => rw [hm] at h; exact h
theorem wp_ok {a : α} {s' : S} (h : m s = .ok a s') (q : Q a s') : wp m s Q E := by
  with_unfolding_all
    unfold wp; rw [h]; exact q
theorem wp_ex (h : wp m s Q NoE) : ∃ a s', m s = .ok a s' ∧ Q a s' := by
  with_unfolding_all
    unfold wp at h
    cases hm : m s with
    | ok a s' => rw [hm] at h; exact ⟨a, s', rfl, h⟩
    | exc x s' => rw [hm] at h; exact h.elim
    | bad => rw [hm] at h; exact h.elim
theorem wp_bnd {f : α → M β} {Q : β → S → Prop} (h : wp m s (fun a s' => wp (f a) s' Q E) E) : wp (bnd m f) s Q E := by
  with_unfolding_all
    unfold wp bnd at *
    cases hm : m s with
    | ok a s' => rw [hm] at h; exact h
    | exc x s' => rw [hm] at h; exact h
    | bad => rw [hm] at h; exact h
theorem wp_ret {a : α} (h : Q a s) : wp (ret a) s Q E := by
  with_unfolding_all
    exact (wp_ok rfl h)
end
section
variable {F : Fn} {ds : List D} {cells : List Cell} {Q Q' : D → List Cell → Prop} {E E' : Exc → List Cell → Prop}
theorem wpF.imp (h : wpF F ds cells Q E) (q : ∀ a c, Q a c → Q' a c) (e : ∀ x c, E x c → E' x c) : wpF F ds cells Q' E' := by
  with_unfolding_all
    unfold wpF at h ⊢
    cases hm : F ds cells with
    | ok a s' => rw [hm] at h; exact q _ _ h
    | exc x s' => rw [hm] at h; exact e _ _ h
    | bad => rw [hm] at h; exact h
theorem wpF.mono (h : wpF F ds cells Q NoE) (q : ∀ a c, Q a c → Q' a c) : wpF F ds cells Q' E' := by
  with_unfolding_all
    exact (h.imp q fun _ _ z => z.elim)
theorem wpF_ok {d : D} {c : List Cell} (h : F ds cells = .ok d c) (q : Q d c) : wpF F ds cells Q E := by
  with_unfolding_all
    unfold wpF; rw [h]; exact q
theorem wpF_eq {d : D} {c : List Cell} (h : wpF F ds cells (fun d' c' => d' = d ∧ c' = c) NoE) : F ds cells = .ok d c := by
  with_unfolding_all
    unfold wpF at h
    cases hm : F ds cells with
    | ok a s' => rw [hm] at h; obtain ⟨rfl, rfl⟩ := h; rfl
    | exc x s' => rw [hm] at h; exact h.elim
    | bad => rw [hm] at h; exact h.elim
theorem wpF_ex (h : wpF F ds cells Q NoE) : ∃ d c, F ds cells = .ok d c ∧ Q d c := by
  with_unfolding_all
    unfold wpF at h
    cases hm : F ds cells with
    | ok a s' => rw [hm] at h; exact ⟨a, s', rfl, h⟩
    | exc x s' => rw [hm] at h; exact h.elim
    | bad => rw [hm] at h; exact h.elim
def endK (Q : D → List Cell → Prop) : Flow → S → Prop
  | .nx, s => Q .non s.cells
  | .rt d, s => Q d s.cells
  | _, _ => False
theorem wpF_run {n : Nat} {b : MS} (h : wp b ⟨ds.map (fun d => some (.val d)) ++ List.replicate (n - ds.length) none, cells⟩ (endK Q) fun e s => E e s.cells) : wpF (runFn n b) ds cells Q E := by
  with_unfolding_all
    unfold wpF runFn
    unfold wp at h
    cases hm : b ⟨ds.map (fun d => some (.val d)) ++ List.replicate (n - ds.length) none, cells⟩ with
    | ok fl s' =>
      rw [hm] at h
      cases fl with
      | nx => exact h
      | rt d => exact h
      | bk => exact h.elim
      | ct => exact h.elim
    | exc x s' => rw [hm] at h; exact h
    | bad => rw [hm] at h; exact h
end
def frame : Nat → List D → List (Option Slot)
  | 0, _ => []
  | n + 1, [] => none :: frame n []
  | n + 1, d :: ds => some (.val d) :: frame n ds
theorem frame_nil : ∀ n : Nat, frame n [] = List.replicate n none
  | 0 => rfl
  | n + 1 => by rw [frame, frame_nil n] <;> rfl
theorem frame_eq : ∀ (n : Nat) (ds : List D), ds.length ≤ n → frame n ds = ds.map (fun d => some (Slot.val d)) ++ List.replicate (n - ds.length) none
  | n, [], _ => by rw [frame_nil] <;> rfl
  | n + 1, d :: ds, h => by
    rw [frame, frame_eq n ds (Nat.le_of_succ_le_succ h), List.length_cons, Nat.add_sub_add_right] <;> rfl
theorem wpF_run' {n : Nat} {b : MS} {ds : List D} {cells : List Cell} {Q : D → List Cell → Prop} {E : Exc → List Cell → Prop} (hl : Nat.ble ds.length n = true) {env : List (Option Slot)} (e : frame n ds = env) (h : wp b ⟨env, cells⟩ (endK Q) fun e s => E e s.cells) : wpF (runFn n b) ds cells Q E := by
  with_unfolding_all
    exact (wpF_run (by rw [← frame_eq n ds (Nat.le_of_ble_eq_true hl), e]; exact h))
def initK (Q : D → List Cell → Prop) : Flow → S → Prop
  | .nx, s => ∃ c fs, s.env[(0 : Nat)]? = some (some (.ownI c fs)) ∧ Q (.ins c fs) s.cells
  | _, _ => False
theorem initK_nx {Q : D → List Cell → Prop} {c : Str} {fs : List (Str × D)} {env : List (Option Slot)} {cells : List Cell} (e : env[(0 : Nat)]? = some (some (.ownI c fs))) (h : Q (.ins c fs) cells) : initK Q .nx ⟨env, cells⟩ := by
  with_unfolding_all
    exact (⟨c, fs, e, h⟩)
theorem wpF_init {n : Nat} {cn : Str} {b : MS} {ds : List D} {cells : List Cell} {Q : D → List Cell → Prop} {E : Exc → List Cell → Prop} (hl : Nat.ble ds.length (n - 1) = true) {env : List (Option Slot)} (e : some (Slot.ownI cn []) :: frame (n - 1) ds = env) (h : wp b ⟨env, cells⟩ (initK Q) fun e s => E e s.cells) : wpF (runInit n cn b) ds cells Q E := by
  with_unfolding_all
    rw [frame_eq (n - 1) ds (Nat.le_of_ble_eq_true hl)] at e
    unfold wpF runInit
    rw [e]
    unfold wp at h
    cases hm : b ⟨env, cells⟩ with
    | ok f s' =>
      rw [hm] at h
      cases f with
      | nx =>
        obtain ⟨c, fs, e, q⟩ := h
        simp only [e]
        exact q
      | rt d => exact h.elim
      | bk => exact h.elim
      | ct => exact h.elim
    | exc x s' => rw [hm] at h; exact h
    | bad => rw [hm] at h; exact h
section
variable {s : S} {Q : Flow → S → Prop} {E : Exc → S → Prop}
def seqK (b : MS) (Q : Flow → S → Prop) (E : Exc → S → Prop) : Flow → S → Prop
  | .nx, s => wp b s Q E
  | f, s => Q f s
theorem wp_seq {a b : MS} (h : wp a s (seqK b Q E) E) : wp (mSeq a b) s Q E := by
  with_unfolding_all
    unfold wp mSeq at *
    cases hm : a s with
    | ok f s' => rw [hm] at h; cases f <;> exact h
    | exc x s' => rw [hm] at h; exact h
    | bad => rw [hm] at h; exact h
theorem seqK_nx {b : MS} (h : wp b s Q E) : seqK b Q E .nx s := by
  with_unfolding_all
    exact (h)
theorem seqK_rt {b : MS} {d : D} (h : Q (.rt d) s) : seqK b Q E (.rt d) s := by
  with_unfolding_all
    exact (h)
theorem seqK_ct {b : MS} (h : Q .ct s) : seqK b Q E .ct s := by
  with_unfolding_all
    exact (h)
theorem seqK_bk {b : MS} (h : Q .bk s) : seqK b Q E .bk s := by
  with_unfolding_all
    exact (h)
theorem endK_rt {Q : D → List Cell → Prop} {d : D} {env : List (Option Slot)} {cells : List Cell} (h : Q d cells) : endK Q (.rt d) ⟨env, cells⟩ := by
  with_unfolding_all
    exact (h)
theorem endK_nx {Q : D → List Cell → Prop} {env : List (Option Slot)} {cells : List Cell} (h : Q .non cells) : endK Q .nx ⟨env, cells⟩ := by
  with_unfolding_all
    exact (h)
theorem wp_next (h : Q .nx s) : wp mNext s Q E := by
  with_unfolding_all
    exact (wp_ok rfl h)
theorem wp_expr {m : M D} (h : wp m s (fun _ s' => Q .nx s') E) : wp (mExpr m) s Q E := by
  with_unfolding_all
    exact (wp_bnd h)
theorem wp_mret {m : M D} (h : wp m s (fun d s' => Q (.rt d) s') E) : wp (mRet m) s Q E := by
  with_unfolding_all
    exact (wp_bnd h)
theorem wp_ifS {t : M Bool} {a b : MS} (h : wp t s (fun c s' => wp (if c then a else b) s' Q E) E) : wp (mIfS t a b) s Q E := by
  with_unfolding_all
    exact (wp_bnd h)
def setK (Q : Flow → S → Prop) (i : Nat) (t : Slot) (s : S) : Prop := Q .nx ⟨s.env.set i (some t), s.cells⟩
theorem setK_in {i : Nat} {t : Slot} {env env' : List (Option Slot)} {cells : List Cell} (e : env.set i (some t) = env') (h : Q .nx ⟨env', cells⟩) : setK Q i t ⟨env, cells⟩ := by
  with_unfolding_all
    subst e; exact h
def setK2 (Q : Flow → S → Prop) (i j : Nat) (t u : Slot) (s : S) : Prop := Q .nx ⟨(s.env.set i (some t)).set j (some u), s.cells⟩
theorem setK2_in {i j : Nat} {t u : Slot} {env env' : List (Option Slot)} {cells : List Cell} (e : (env.set i (some t)).set j (some u) = env') (h : Q .nx ⟨env', cells⟩) : setK2 Q i j t u ⟨env, cells⟩ := by
  with_unfolding_all
    subst e; exact h
theorem wp_set {i : Nat} {m : M D} (h : wp m s (fun d s' => setK Q i (.val d) s') E) : wp (mSet i m) s Q E := by
  with_unfolding_all
    exact (wp_bnd h)
theorem wp_setO {i : Nat} {m : M (List D)} (h : wp m s (fun ds s' => setK Q i (.own ds) s') E) : wp (mSetO i m) s Q E := by
  with_unfolding_all
    exact (wp_bnd h)
theorem wp_setV {i : Nat} {m : M (List D)} (h : wp m s (fun ds s' => setK Q i (.val (.lst ds)) s') E) : wp (mSetV i m) s Q E := by
  with_unfolding_all
    exact (wp_bnd h)
theorem wp_par {i j : Nat} {m : M (List D)} (h : wp m s (fun ds s' => ∃ a b, ds = [a, b] ∧ setK2 Q i j (.val a) (.val b) s') E) : wp (mPar i j m) s Q E := by
  with_unfolding_all
    exact (wp_bnd (h.imp (fun ds s' ⟨a, b, e, q⟩ => by subst e; exact q) fun _ _ z => z))
theorem wp_self {cn f : Str} {i : Nat} {m : M D} (h : wp m s (fun d s' => ∃ fs, s'.env[i]? = some (some (.ownI cn fs)) ∧ Nat.blt fs.length 900 = true ∧ setK Q i (.ownI cn (putFD f d fs)) s') E) : wp (mSelf cn i f m) s Q E := by
  with_unfolding_all
    exact (wp_bnd (h.imp (fun d s' ⟨fs, e1, e2, q⟩ => by
        unfold wp
        simp only [e1, e2, decide_true, Bool.and_self, if_true]
        exact q) fun _ _ z => z))
theorem wp_parL {i j : Nat} {m : M (List D)} {m2 : M D} (h : wp m s (fun ds s1 => wp m2 s1 (fun d s' => setK2 Q i j (.own ds) (.val d) s') E) E) : wp (mParL i j m m2) s Q E := by
  with_unfolding_all
    exact (wp_bnd (h.imp (fun _ _ z => wp_bnd z) fun _ _ z => z))
theorem wp_parR {i j : Nat} {m : M D} {m2 : M (List D)} (h : wp m s (fun d s1 => wp m2 s1 (fun ds s' => setK2 Q i j (.val d) (.own ds) s') E) E) : wp (mParR i j m m2) s Q E := by
  with_unfolding_all
    exact (wp_bnd (h.imp (fun _ _ z => wp_bnd z) fun _ _ z => z))
def wpU (m : M Unit) (s : S) (K : S → Prop) : Prop := match m s with
  | .ok _ s' => K s'
  | _ => False
theorem wpU_ex {m : M Unit} {K : S → Prop} (h : wpU m s K) : ∃ s', m s = .ok () s' ∧ K s' := by
  with_unfolding_all
    unfold wpU at h
    cases hm : m s with
    | ok u s2 => rw [hm] at h; exact ⟨s2, rfl, h⟩
    | exc x s2 => rw [hm] at h; exact h.elim
    | bad => rw [hm] at h; exact h.elim
theorem wp_asg {f : D → M Unit} {m : M D} (h : wp m s (fun d s' => wpU (f d) s' fun s2 => Q .nx s2) E) : wp (mAsg f m) s Q E := by
  with_unfolding_all
    refine wp_bnd (h.imp (fun d s' z => ?_) fun _ _ z => z)
    unfold wpU at z
    unfold wp
    cases hm : f d s' with
    | ok u s2 => rw [hm] at z; simp only [hm]; exact z
    | exc x s2 => rw [hm] at z; exact z.elim
    | bad => rw [hm] at z; exact z.elim
theorem wpU_name {i : Nat} {d : D} {K : S → Prop} {env env' : List (Option Slot)} {cells : List Cell} (e : env.set i (some (.val d)) = env') (h : K ⟨env', cells⟩) : wpU (tName i d) ⟨env, cells⟩ K := by
  with_unfolding_all
    subst e; exact h
theorem wpU_tup {n : Nat} {f : List D → M Unit} {ds : List D} {K : S → Prop} (e : ds.length = n) (h : wpU (f ds) s K) : wpU (tTup n f (.tup ds)) s K := by
  with_unfolding_all
    unfold tTup
    simp only [e, if_true]
    exact h
theorem wpU_tupL {n : Nat} {f : List D → M Unit} {ds : List D} {K : S → Prop} (e : ds.length = n) (h : wpU (f ds) s K) : wpU (tTup n f (.lst ds)) s K := by
  with_unfolding_all
    unfold tTup
    simp only [e, if_true]
    exact h
theorem wpU_cons {f : D → M Unit} {g : List D → M Unit} {d : D} {ds : List D} {K : S → Prop} (h : wpU (f d) s fun s' => wpU (g ds) s' K) : wpU (tsCons f g (d :: ds)) s K := by
  with_unfolding_all
    unfold wpU at *
    show (match (bnd (f d) fun _ => g ds) s with | .ok _ s' => K s' | _ => False)
    unfold bnd
    cases hm : f d s with
    | ok u s2 => rw [hm] at h; exact h
    | exc x s2 => rw [hm] at h; exact h.elim
    | bad => rw [hm] at h; exact h.elim
theorem wpU_nil {K : S → Prop} (h : K s) : wpU (tsNil []) s K := by
  with_unfolding_all
    exact (h)
def putK {α : Type} (Q : α → S → Prop) (a : α) (i : Nat) (ds : List D) (s : S) : Prop := Q a (putL s i ds)
theorem putK_in {α : Type} {Q : α → S → Prop} {a : α} {i : Nat} {ds ds' ds0 : List D} {env env' : List (Option Slot)} {cells : List Cell} (o : env[i]? = some (some (.own ds0))) (e : env.set i (some (.own ds)) = env') (h : Q a ⟨env', cells⟩) : putK Q a i ds ⟨env, cells⟩ := by
  with_unfolding_all
    subst e
    unfold putK putL
    simp only [o]
    exact h
theorem putK_cel {α : Type} {Q : α → S → Prop} {a : α} {i n : Nat} {ds : List D} {env : List (Option Slot)} {cells cells' : List Cell} (o : env[i]? = some (some (.val (.cel n)))) (e : cells.set n (.lst ds) = cells') (h : Q a ⟨env, cells'⟩) : putK Q a i ds ⟨env, cells⟩ := by
  with_unfolding_all
    subst e
    unfold putK putL
    simp only [o]
    exact h
theorem wpU_sub {i n j : Nat} {k : Int} {mi : M D} {v : D} {ds ds' : List D} {K : S → Prop} (h : mi s = .ok (.int k) s) (g : getL s i = some ds) (hx : L2.ixN ds.length k = some j) (e : ds.set j v = ds') (hk : putK (fun _ s => K s) () i ds' s) : wpU (tSub i mi v) s K := by
  with_unfolding_all
    unfold wpU tSub
    simp only [g, h, hx]
    subst e
    exact hk
end
section
variable {E : Exc → S → Prop}
def forK (I : List D → S → Prop) (ds : List D) (Q : Flow → S → Prop) : Flow → S → Prop
  | .nx, s => I ds s
  | .ct, s => I ds s
  | .bk, s => Q .nx s
  | .rt d, s => Q (.rt d) s
theorem wp_forGo {f : D → M Unit} {body : MS} {Q : Flow → S → Prop} (I : List D → S → Prop) (h : ∀ d ds s, I (d :: ds) s → wpU (f d) s fun s1 => wp body s1 (forK I ds Q) E) (hq : ∀ s, I [] s → Q .nx s) :
    ∀ (ds : List D) (s : S), I ds s → wp (forGo f body ds) s Q E
  | [], s, hi => by with_unfolding_all exact hq s hi
  | d :: ds, s, hi => by
    obtain ⟨s1, hf, h1⟩ := wpU_ex (h d ds s hi)
    unfold wp forGo
    simp only [hf]
    unfold wp at h1
    cases hb : body s1 with
    | ok fl s2 =>
      simp only [hb] at h1
      cases fl with
      | nx => with_unfolding_all exact wp_forGo I h hq ds s2 h1
      | ct => with_unfolding_all exact wp_forGo I h hq ds s2 h1
      | bk => exact h1
      | rt d => exact h1
    | exc x s2 => simp only [hb] at h1; exact h1
    | bad => simp only [hb] at h1
theorem wp_for {mi : M (List D)} {f : D → M Unit} {body : MS} {s : S} {Q : Flow → S → Prop} (h : wp mi s (fun ds s' => wp (forGo f body ds) s' Q E) E) : wp (mFor mi f body) s Q E := by
  with_unfolding_all
    exact (wp_bnd h)
def wpI {α : Type} (f : D → M Unit) (tt : M Bool) (inner : M (List α)) (vs : List Nat) (d : D) (s : S) (K : List α → S → Prop) : Prop :=
  wpU (f d) s fun s1 => wp tt s1 (fun b s2 => if b then wp inner s2 (fun ys s3 => K ys (wipeS vs s3)) NoE else K [] (wipeS vs s2)) NoE
theorem wp_lcGo {α : Type} {f : D → M Unit} {tt : M Bool} {inner : M (List α)} {vs : List Nat} (I : List D → List α → S → Prop)
    (h : ∀ d ds acc s, I (d :: ds) acc s → wpI f tt inner vs d s fun ys s' => I ds (acc ++ ys) s') :
    ∀ (ds : List D) (acc : List α) (s : S), I ds acc s → ∀ (Q : List α → S → Prop), (∀ ys s', I [] (acc ++ ys) s' → Q ys s') → wp (lcGo f tt inner vs ds) s Q NoE
  | [], acc, s, hi, Q, hq => by with_unfolding_all exact hq [] s (by rw [List.append_nil]; exact hi)
  | d :: ds, acc, s, hi, Q, hq => by
    obtain ⟨s1, hf, h1⟩ := wpU_ex (h d ds acc s hi)
    obtain ⟨b, s2, hb, h2⟩ := wp_ex h1
    unfold wp lcGo
    simp only [hf, hb]
    cases b with
    | true =>
      obtain ⟨ys, s3, hn, h3⟩ := wp_ex h2
      have h4 := wp_lcGo I h ds (acc ++ ys) _ h3 (fun zs s' => Q (ys ++ zs) s') (fun zs s' hz => hq (ys ++ zs) s' (by rw [← List.append_assoc]; exact hz))
      obtain ⟨zs, s4, e4, q4⟩ := wp_ex h4
      simp only [hn, e4]
      exact q4
    | false =>
      have h2 : I ds (acc ++ []) (wipeS vs s2) := h2
      rw [List.append_nil] at h2
      with_unfolding_all exact wp_lcGo I h ds acc _ h2 Q hq
theorem wpI.imp {α : Type} {f : D → M Unit} {tt : M Bool} {inner : M (List α)} {vs : List Nat} {d : D} {s : S} {K K' : List α → S → Prop} (h : wpI f tt inner vs d s K) (k : ∀ ys s', K ys s' → K' ys s') : wpI f tt inner vs d s K' := by
  with_unfolding_all
    obtain ⟨s1, hf, h1⟩ := wpU_ex h
    unfold wpI wpU
    simp only [hf]
    refine h1.imp (fun b s2 z => ?_) fun _ _ z => z
    cases b with
    | true => exact wp.imp z (fun _ _ z => k _ _ z) fun _ _ z => z
    | false => exact k _ _ z
theorem wp_lcMap {α : Type} {f : D → M Unit} {tt : M Bool} {inner : M (List α)} {vs : List Nat} {ds : List D} {s : S} {Q : List α → S → Prop} (g : D → List α)
    (h : ∀ d ∈ ds, wpI f tt inner vs d s fun ys s' => ys = g d ∧ s' = s) (q : Q (ds.map g).flatten s) : wp (lcGo f tt inner vs ds) s Q E := by
  refine wp.imp (Q := Q) (wp_lcGo (fun rem acc s' => s' = s ∧ (∀ d ∈ rem, d ∈ ds) ∧ acc ++ (rem.map g).flatten = (ds.map g).flatten) ?_ ds [] s ⟨rfl, fun _ z => z, rfl⟩ Q ?_) (fun _ _ z => z) fun _ _ z => z.elim
  · intro d r acc s' ⟨e, hm, ha⟩
    subst e
    refine (h d (hm d List.mem_cons_self)).imp fun ys s3 z => ?_
    obtain ⟨rfl, rfl⟩ := z
    refine ⟨rfl, fun d hd => hm d (List.mem_cons_of_mem _ hd), ?_⟩
    rw [← ha, List.map_cons, List.flatten_cons, List.append_assoc]
  · rintro ys s' ⟨rfl, _, ha⟩
    have : ys = (ds.map g).flatten := by simpa using ha
    rw [this]
    exact q
theorem flatten_one {α β : Type} (g : α → β) : ∀ xs : List α, (xs.map fun x => [g x]).flatten = xs.map g
  | [] => rfl
  | x :: xs => by rw [List.map_cons, List.flatten_cons, flatten_one g xs] <;> rfl
theorem flatten_if {α β : Type} (p : α → Bool) (g : α → β) : ∀ xs : List α, (xs.map fun x => if p x then [g x] else []).flatten = (xs.filter p).map g
  | [] => rfl
  | x :: xs => by
    rw [List.map_cons, List.flatten_cons, flatten_if p g xs]
    cases h : p x with
    | true => rw [List.filter_cons_of_pos h] <;> rfl
    | false => rw [List.filter_cons_of_neg (by rw [h]; decide)] <;> rfl
theorem wp_lcFM {α γ : Type} {f : D → M Unit} {tt : M Bool} {inner : M (List α)} {vs : List Nat} {xs : List γ} {s : S} {Q : List α → S → Prop} (e : γ → D) (g : γ → List α)
    (h : ∀ x ∈ xs, wpI f tt inner vs (e x) s fun ys s' => ys = g x ∧ s' = s) (q : Q (xs.map g).flatten s) : wp (lcGo f tt inner vs (xs.map e)) s Q E := by
  refine wp.imp (Q := Q) (wp_lcGo (fun rem acc s' => s' = s ∧ ∃ r : List γ, rem = r.map e ∧ (∀ x ∈ r, x ∈ xs) ∧ acc ++ (r.map g).flatten = (xs.map g).flatten) ?_ (xs.map e) [] s ⟨rfl, xs, rfl, fun _ z => z, rfl⟩ Q ?_) (fun _ _ z => z) fun _ _ z => z.elim
  · intro d r acc s' ⟨es, r', hr, hm, ha⟩
    cases r' with
    | nil => cases hr
    | cons x r' =>
      rw [List.map_cons] at hr
      obtain ⟨rfl, rfl⟩ := List.cons.inj hr
      rw [es]
      refine (h x (hm x List.mem_cons_self)).imp fun ys s3 z => ?_
      obtain ⟨rfl, rfl⟩ := z
      refine ⟨rfl, r', rfl, fun d hd => hm d (List.mem_cons_of_mem _ hd), ?_⟩
      rw [← ha, List.map_cons, List.flatten_cons, List.append_assoc]
  · rintro ys s' ⟨rfl, r', hr, _, ha⟩
    cases r' with
    | nil =>
      have : ys = (xs.map g).flatten := by simpa using ha
      rw [this]
      exact q
    | cons x r' => cases hr
theorem wp_lcM {α γ : Type} {f : D → M Unit} {tt : M Bool} {inner : M (List α)} {vs : List Nat} {xs : List γ} {s : S} {Q : List α → S → Prop} (e : γ → D) (g : γ → α)
    (h : ∀ x ∈ xs, wpI f tt inner vs (e x) s fun ys s' => ys = [g x] ∧ s' = s) (q : Q (xs.map g) s) : wp (lcGo f tt inner vs (xs.map e)) s Q E :=
  wp_lcFM e (fun x => [g x]) h (by rw [flatten_one]; exact q)
theorem wp_lcF {α γ : Type} {f : D → M Unit} {tt : M Bool} {inner : M (List α)} {vs : List Nat} {xs : List γ} {s : S} {Q : List α → S → Prop} (e : γ → D) (p : γ → Bool) (g : γ → α)
    (h : ∀ x ∈ xs, wpI f tt inner vs (e x) s fun ys s' => ys = (if p x then [g x] else []) ∧ s' = s) (q : Q ((xs.filter p).map g) s) : wp (lcGo f tt inner vs (xs.map e)) s Q E :=
  wp_lcFM e (fun x => if p x then [g x] else []) h (by rw [flatten_if]; exact q)
theorem wp_lcDraw {α : Type} {f : D → M Unit} {tt : M Bool} {inner : M (List α)} {vs : List Nat} {ds : List D} {env : List (Option Slot)} {cells : List Cell} {Q : List α → S → Prop} (J : Nat → List Cell → Prop) (P : D → List α → Prop)
    (h : ∀ d ∈ ds, ∀ k cells, J (k + 1) cells → wpI f tt inner vs d ⟨env, cells⟩ fun ys s' => P d ys ∧ s'.env = env ∧ J k s'.cells) (hJ : J ds.length cells) (q : ∀ yss cells', All2 P ds yss → J 0 cells' → Q yss.flatten ⟨env, cells'⟩) : wp (lcGo f tt inner vs ds) ⟨env, cells⟩ Q E := by
  have snoc : ∀ {as : List D} {bs : List (List α)} {a : D} {b : List α}, All2 P as bs → P a b → All2 P (as ++ [a]) (bs ++ [b]) := fun {as bs a b} h k => by
    induction h with
    | nil => exact .cons k .nil
    | cons h1 _ ih => exact .cons h1 ih
  refine wp.imp (Q := Q) (wp_lcGo (fun rem acc s' => s'.env = env ∧ J rem.length s'.cells ∧ ∃ dn yss, ds = dn ++ rem ∧ All2 P dn yss ∧ acc = yss.flatten) ?_ ds [] _ ⟨rfl, hJ, [], [], rfl, .nil, rfl⟩ Q ?_) (fun _ _ z => z) fun _ _ z => z.elim
  · rintro d r acc ⟨e', cells'⟩ ⟨rfl, hj, dn, yss, hd, ha, rfl⟩
    refine (h d (by rw [hd]; simp) r.length cells' hj).imp fun ys s3 z => ?_
    exact ⟨z.2.1, z.2.2, dn ++ [d], yss ++ [ys], by rw [hd]; simp, snoc ha z.1, by simp⟩
  · rintro ys ⟨e', cells'⟩ ⟨rfl, hj, dn, yss, hd, ha, he⟩
    have hd' : ds = dn := by rw [hd, List.append_nil]
    subst hd'
    have he' : ys = yss.flatten := by simpa using he
    rw [he']
    exact q yss cells' ha hj
def wpW {α : Type} (m : M α) (vs : List Nat) (s : S) (Q : α → S → Prop) (E : Exc → S → Prop) : Prop := wp m (wipeS vs s) Q E
theorem wpW_in {α : Type} {m : M α} {vs : List Nat} {env env' : List (Option Slot)} {cells : List Cell} {Q : α → S → Prop} {E : Exc → S → Prop} (e : wipeE env vs = env') (h : wp m ⟨env', cells⟩ Q E) : wpW m vs ⟨env, cells⟩ Q E := by
  with_unfolding_all
    subst e; exact h
def backK {α : Type} (Q : α → S → Prop) (a : α) (vs : List Nat) (s1 s2 : S) : Prop := Q a (backS s1 vs s2)
theorem backK_in {α : Type} {Q : α → S → Prop} {a : α} {vs : List Nat} {env1 env2 env' : List (Option Slot)} {c1 c2 : List Cell} (e : backE env1 env2 vs = env') (h : Q a ⟨env', c2⟩) : backK Q a vs ⟨env1, c1⟩ ⟨env2, c2⟩ := by
  with_unfolding_all
    subst e; exact h
def wipeK {α : Type} (K : α → S → Prop) (a : α) (vs : List Nat) (s : S) : Prop := K a (wipeS vs s)
theorem wipeK_in {α : Type} {K : α → S → Prop} {a : α} {vs : List Nat} {env env' : List (Option Slot)} {cells : List Cell} (e : wipeE env vs = env') (h : K a ⟨env', cells⟩) : wipeK K a vs ⟨env, cells⟩ := by
  with_unfolding_all
    subst e; exact h
theorem wpI_in {α : Type} {f : D → M Unit} {tt : M Bool} {inner : M (List α)} {vs : List Nat} {d : D} {s : S} {K : List α → S → Prop} (h : wpU (f d) s fun s1 => wp tt s1 (fun b s2 => (b = true → wp inner s2 (fun ys s3 => wipeK K ys vs s3) NoE) ∧ (b = false → wipeK K [] vs s2)) NoE) : wpI f tt inner vs d s K := by
  with_unfolding_all
    obtain ⟨s1, hf, h1⟩ := wpU_ex h
    unfold wpI wpU
    simp only [hf]
    refine h1.imp (fun b s2 z => ?_) fun _ _ z => z
    cases b with
    | true => exact z.1 rfl
    | false => exact z.2 rfl
theorem wp_comp {mi : M (List D)} {go : List D → M (List D)} {vs : List Nat} {s : S} {Q : List D → S → Prop} (h : wp mi s (fun items s1 => wpW (go items) vs s1 (fun ys s2 => small ys = true ∧ backK Q ys vs s1 s2) NoE) E) : wp (mComp mi go vs) s Q E := by
  with_unfolding_all
    refine wp_bnd (h.imp (fun items s1 z => ?_) fun _ _ z => z)
    obtain ⟨ys, s2, e, hs, hq⟩ := wp_ex z
    unfold wp lcTop
    simp only [e, hs, if_true]
    exact hq
theorem wp_lcOne {te : M D} {s : S} {Q : List D → S → Prop} (h : wp te s (fun d s' => Q [d] s') NoE) : wp (lcOne te) s Q NoE := by
  with_unfolding_all
    obtain ⟨d, s', e, hq⟩ := wp_ex h
    unfold wp lcOne
    rw [e]
    exact hq
theorem wp_lcIn {mi : M (List D)} {go : List D → M (List D)} {vs : List Nat} {s : S} {Q : List D → S → Prop} (h : wp mi s (fun items s1 => wpW (go items) vs s1 Q E) NoE) : wp (lcIn mi go vs) s Q E := by
  with_unfolding_all
    obtain ⟨d, s', e, hq⟩ := wp_ex h
    unfold wp lcIn
    rw [e]
    exact hq
end
section
variable {s : S} {E : Exc → S → Prop}
theorem wp_var {i : Nat} {d : D} {Q : D → S → Prop} (h : s.env[i]? = some (some (.val d))) (q : Q d s) : wp (mVar i) s Q E := by
  with_unfolding_all
    unfold wp mVar; rw [h]; exact q
theorem wp_varO {i : Nat} {ds : List D} {Q : D → S → Prop} {env env' : List (Option Slot)} {cells : List Cell} (h : env[i]? = some (some (.own ds))) (e : env.set i (some (.val (.lst ds))) = env') (q : Q (.lst ds) ⟨env', cells⟩) : wp (mVar i) ⟨env, cells⟩ Q E := by
  with_unfolding_all
    unfold wp mVar; simp only [h, e]; exact q
theorem wp_nil {Q : List D → S → Prop} (h : Q [] s) : wp mNil s Q E := by
  with_unfolding_all
    exact (wp_ok rfl h)
theorem wp_cons {m : M D} {r : M (List D)} {Q : List D → S → Prop} (h : wp m s (fun d s1 => wp r s1 (fun ds s2 => Q (d :: ds) s2) E) E) : wp (mCons m r) s Q E := by
  with_unfolding_all
    exact (wp_bnd (h.imp (fun _ _ z => wp_bnd z) fun _ _ z => z))
theorem wp_tup {m : M (List D)} {Q : D → S → Prop} (h : wp m s (fun ds s' => small ds = true ∧ Q (.tup ds) s') E) : wp (mTup m) s Q E := by
  with_unfolding_all
    exact (wp_bnd (h.imp (fun ds s' z => by rw [if_pos z.1]; exact z.2) fun _ _ z => z))
theorem wp_lst {m : M (List D)} {Q : List D → S → Prop} (h : wp m s (fun ds s' => small ds = true ∧ Q ds s') E) : wp (mLst m) s Q E := by
  with_unfolding_all
    exact (wp_bnd (h.imp (fun ds s' z => by rw [if_pos z.1]; exact z.2) fun _ _ z => z))
theorem wp_L {m : M (List D)} {Q : D → S → Prop} (h : wp m s (fun ds s' => Q (.lst ds) s') E) : wp (mL m) s Q E := by
  with_unfolding_all
    exact (wp_bnd h)
theorem wp_fin {o : Option D} {d : D} {Q : D → S → Prop} (e : o = some d) (h : Q d s) : wp (fin o) s Q E := by
  with_unfolding_all
    subst e; exact h
theorem wp_fin2 {o : Option (List D)} {d : List D} {Q : List D → S → Prop} (e : o = some d) (h : Q d s) : wp (fin2 o) s Q E := by
  with_unfolding_all
    subst e; exact h
theorem wp_op {o : O2} {ma mb : M D} {Q : D → S → Prop} (h : wp ma s (fun a s1 => wp mb s1 (fun b s2 => ∃ d, o (deref s2 a) (deref s2 b) = some d ∧ Q d s2) E) E) : wp (mOp o ma mb) s Q E := by
  with_unfolding_all
    exact (wp_bnd (h.imp (fun a s1 z => wp_bnd (z.imp (fun b s2 ⟨d, e, q⟩ => wp_fin e q) fun _ _ z => z)) fun _ _ z => z))
theorem wp_opN {o : O2} {i : Nat} {a0 : D} {mb : M D} {Q : D → S → Prop} (h0 : peek s i = some a0) (h : wp mb s (fun b s2 => ∃ a d, peek s2 i = some a ∧ o a (deref s2 b) = some d ∧ Q d s2) E) : wp (mOpN o i mb) s Q E := by
  with_unfolding_all
    unfold wp mOpN
    simp only [h0]
    exact wp_bnd (h.imp (fun b s2 ⟨a, d, e, e2, q⟩ => by
      unfold wp
      simp only [e, e2, fin]
      exact q) fun _ _ z => z)
theorem wp_opE {o : O2} {ma : M D} {j : Nat} {Q : D → S → Prop} (h : wp ma s (fun a s2 => ∃ b d, peek s2 j = some b ∧ o (deref s2 a) b = some d ∧ Q d s2) E) : wp (mOpE o ma j) s Q E := by
  with_unfolding_all
    exact (wp_bnd (h.imp (fun a s2 ⟨b, d, e, e2, q⟩ => by
        unfold wp
        simp only [e, e2, fin]
        exact q) fun _ _ z => z))
theorem wp_opB {o : O2} {i j : Nat} {a b d : D} {Q : D → S → Prop} (ha : peek s i = some a) (hb : peek s j = some b) (e : o a b = some d) (q : Q d s) : wp (mOpB o i j) s Q E := by
  with_unfolding_all
    unfold wp mOpB
    simp only [ha, hb, e, fin]
    exact q
def eqG (neg : Bool) (a b : D) (Q : D → S → Prop) (s : S) : Prop := ∃ d, oEqD neg a b = some d ∧ Q d s
theorem eq_int (i j : Int) : oEqD false (.int i) (.int j) = some (.bl (decide (i = j))) := by
  with_unfolding_all
    show some (D.bl (i == j)) = _
    rw [show (i == j) = decide (i = j) from rfl]
theorem ne_int (i j : Int) : oEqD true (.int i) (.int j) = some (.bl (decide (i ≠ j))) := by
  with_unfolding_all
    show some (D.bl (!(i == j))) = _
    rw [show (i == j) = decide (i = j) from rfl]
    congr 2
    by_cases h : i = j <;> simp [h]
theorem eqG_i {a b : D} {i j : Int} {Q : D → S → Prop} (ea : a = .int i) (eb : b = .int j) (q : Q (.bl (decide (i = j))) s) : eqG false a b Q s := by
  with_unfolding_all
    subst ea
    subst eb
    exact ⟨_, eq_int i j, q⟩
theorem neG_i {a b : D} {i j : Int} {Q : D → S → Prop} (ea : a = .int i) (eb : b = .int j) (q : Q (.bl (decide (i ≠ j))) s) : eqG true a b Q s := by
  with_unfolding_all
    subst ea
    subst eb
    exact ⟨_, ne_int i j, q⟩
theorem eqG_of {neg : Bool} {a b d : D} {Q : D → S → Prop} (e : oEqD neg a b = some d) (q : Q d s) : eqG neg a b Q s := by
  with_unfolding_all
    exact (⟨d, e, q⟩)
theorem wp_opQ {neg : Bool} {ma mb : M D} {Q : D → S → Prop} (h : wp ma s (fun a s1 => wp mb s1 (fun b s2 => eqG neg (deref s2 a) (deref s2 b) Q s2) E) E) : wp (mOp (oEqD neg) ma mb) s Q E := by
  with_unfolding_all
    exact (wp_op h)
theorem wp_opNQ {neg : Bool} {i : Nat} {a0 : D} {mb : M D} {Q : D → S → Prop} (h0 : peek s i = some a0) (h : wp mb s (fun b s2 => ∃ a, peek s2 i = some a ∧ eqG neg a (deref s2 b) Q s2) E) : wp (mOpN (oEqD neg) i mb) s Q E := by
  with_unfolding_all
    exact (wp_opN h0 (h.imp (fun b s2 ⟨a, e, d, e2, q⟩ => ⟨a, d, e, e2, q⟩) fun _ _ z => z))
theorem wp_opEQ {neg : Bool} {ma : M D} {j : Nat} {Q : D → S → Prop} (h : wp ma s (fun a s2 => ∃ b, peek s2 j = some b ∧ eqG neg (deref s2 a) b Q s2) E) : wp (mOpE (oEqD neg) ma j) s Q E := by
  with_unfolding_all
    exact (wp_opE (h.imp (fun b s2 ⟨a, e, d, e2, q⟩ => ⟨a, d, e, e2, q⟩) fun _ _ z => z))
theorem wp_opBQ {neg : Bool} {i j : Nat} {a b : D} {Q : D → S → Prop} (ha : peek s i = some a) (hb : peek s j = some b) (h : eqG neg a b Q s) : wp (mOpB (oEqD neg) i j) s Q E := by
  with_unfolding_all
    obtain ⟨d, e, q⟩ := h
    exact wp_opB ha hb e q
def gAG (a b : D) (Q : D → S → Prop) (s : S) : Prop := ∃ d, oAdd a b = some d ∧ Q d s
theorem gAG_of {a b d : D} {Q : D → S → Prop} (e : oAdd a b = some d) (q : Q d s) : gAG a b Q s := by
  with_unfolding_all
    exact (⟨d, e, q⟩)
theorem wp_opA {ma mb : M D} {Q : D → S → Prop} (h : wp ma s (fun a s1 => wp mb s1 (fun b s2 => gAG (deref s2 a) (deref s2 b) Q s2) E) E) : wp (mOp oAdd ma mb) s Q E := by
  with_unfolding_all
    exact (wp_op h)
theorem wp_opNA {i : Nat} {a0 : D} {mb : M D} {Q : D → S → Prop} (h0 : peek s i = some a0) (h : wp mb s (fun b s2 => ∃ a, peek s2 i = some a ∧ gAG a (deref s2 b) Q s2) E) : wp (mOpN oAdd i mb) s Q E := by
  with_unfolding_all
    exact (wp_opN h0 (h.imp (fun b s2 ⟨a, e, d, e2, q⟩ => ⟨a, d, e, e2, q⟩) fun _ _ z => z))
theorem wp_opEA {ma : M D} {j : Nat} {Q : D → S → Prop} (h : wp ma s (fun a s2 => ∃ b, peek s2 j = some b ∧ gAG (deref s2 a) b Q s2) E) : wp (mOpE oAdd ma j) s Q E := by
  with_unfolding_all
    exact (wp_opE (h.imp (fun b s2 ⟨a, e, d, e2, q⟩ => ⟨a, d, e, e2, q⟩) fun _ _ z => z))
theorem wp_opBA {i j : Nat} {a b : D} {Q : D → S → Prop} (ha : peek s i = some a) (hb : peek s j = some b) (h : gAG a b Q s) : wp (mOpB oAdd i j) s Q E := by
  with_unfolding_all
    obtain ⟨d, e, q⟩ := h
    exact wp_opB ha hb e q
def gMG (a b : D) (Q : D → S → Prop) (s : S) : Prop := ∃ d, oMod a b = some d ∧ Q d s
theorem gMG_of {a b d : D} {Q : D → S → Prop} (e : oMod a b = some d) (q : Q d s) : gMG a b Q s := by
  with_unfolding_all
    exact (⟨d, e, q⟩)
theorem wp_opM {ma mb : M D} {Q : D → S → Prop} (h : wp ma s (fun a s1 => wp mb s1 (fun b s2 => gMG (deref s2 a) (deref s2 b) Q s2) E) E) : wp (mOp oMod ma mb) s Q E := by
  with_unfolding_all
    exact (wp_op h)
theorem wp_opNM {i : Nat} {a0 : D} {mb : M D} {Q : D → S → Prop} (h0 : peek s i = some a0) (h : wp mb s (fun b s2 => ∃ a, peek s2 i = some a ∧ gMG a (deref s2 b) Q s2) E) : wp (mOpN oMod i mb) s Q E := by
  with_unfolding_all
    exact (wp_opN h0 (h.imp (fun b s2 ⟨a, e, d, e2, q⟩ => ⟨a, d, e, e2, q⟩) fun _ _ z => z))
theorem wp_opEM {ma : M D} {j : Nat} {Q : D → S → Prop} (h : wp ma s (fun a s2 => ∃ b, peek s2 j = some b ∧ gMG (deref s2 a) b Q s2) E) : wp (mOpE oMod ma j) s Q E := by
  with_unfolding_all
    exact (wp_opE (h.imp (fun b s2 ⟨a, e, d, e2, q⟩ => ⟨a, d, e, e2, q⟩) fun _ _ z => z))
theorem wp_opBM {i j : Nat} {a b : D} {Q : D → S → Prop} (ha : peek s i = some a) (hb : peek s j = some b) (h : gMG a b Q s) : wp (mOpB oMod i j) s Q E := by
  with_unfolding_all
    obtain ⟨d, e, q⟩ := h
    exact wp_opB ha hb e q
def gTG (a b : D) (Q : D → S → Prop) (s : S) : Prop := ∃ d, oMul a b = some d ∧ Q d s
theorem gTG_of {a b d : D} {Q : D → S → Prop} (e : oMul a b = some d) (q : Q d s) : gTG a b Q s := by
  with_unfolding_all
    exact (⟨d, e, q⟩)
theorem wp_opT {ma mb : M D} {Q : D → S → Prop} (h : wp ma s (fun a s1 => wp mb s1 (fun b s2 => gTG (deref s2 a) (deref s2 b) Q s2) E) E) : wp (mOp oMul ma mb) s Q E := by
  with_unfolding_all
    exact (wp_op h)
theorem wp_opNT {i : Nat} {a0 : D} {mb : M D} {Q : D → S → Prop} (h0 : peek s i = some a0) (h : wp mb s (fun b s2 => ∃ a, peek s2 i = some a ∧ gTG a (deref s2 b) Q s2) E) : wp (mOpN oMul i mb) s Q E := by
  with_unfolding_all
    exact (wp_opN h0 (h.imp (fun b s2 ⟨a, e, d, e2, q⟩ => ⟨a, d, e, e2, q⟩) fun _ _ z => z))
theorem wp_opET {ma : M D} {j : Nat} {Q : D → S → Prop} (h : wp ma s (fun a s2 => ∃ b, peek s2 j = some b ∧ gTG (deref s2 a) b Q s2) E) : wp (mOpE oMul ma j) s Q E := by
  with_unfolding_all
    exact (wp_opE (h.imp (fun b s2 ⟨a, e, d, e2, q⟩ => ⟨a, d, e, e2, q⟩) fun _ _ z => z))
theorem wp_opBT {i j : Nat} {a b : D} {Q : D → S → Prop} (ha : peek s i = some a) (hb : peek s j = some b) (h : gTG a b Q s) : wp (mOpB oMul i j) s Q E := by
  with_unfolding_all
    obtain ⟨d, e, q⟩ := h
    exact wp_opB ha hb e q
def gFG (a b : D) (Q : D → S → Prop) (s : S) : Prop := ∃ d, oFdiv a b = some d ∧ Q d s
theorem gFG_of {a b d : D} {Q : D → S → Prop} (e : oFdiv a b = some d) (q : Q d s) : gFG a b Q s := by
  with_unfolding_all
    exact (⟨d, e, q⟩)
theorem wp_opF {ma mb : M D} {Q : D → S → Prop} (h : wp ma s (fun a s1 => wp mb s1 (fun b s2 => gFG (deref s2 a) (deref s2 b) Q s2) E) E) : wp (mOp oFdiv ma mb) s Q E := by
  with_unfolding_all
    exact (wp_op h)
theorem wp_opNF {i : Nat} {a0 : D} {mb : M D} {Q : D → S → Prop} (h0 : peek s i = some a0) (h : wp mb s (fun b s2 => ∃ a, peek s2 i = some a ∧ gFG a (deref s2 b) Q s2) E) : wp (mOpN oFdiv i mb) s Q E := by
  with_unfolding_all
    exact (wp_opN h0 (h.imp (fun b s2 ⟨a, e, d, e2, q⟩ => ⟨a, d, e, e2, q⟩) fun _ _ z => z))
theorem wp_opEF {ma : M D} {j : Nat} {Q : D → S → Prop} (h : wp ma s (fun a s2 => ∃ b, peek s2 j = some b ∧ gFG (deref s2 a) b Q s2) E) : wp (mOpE oFdiv ma j) s Q E := by
  with_unfolding_all
    exact (wp_opE (h.imp (fun b s2 ⟨a, e, d, e2, q⟩ => ⟨a, d, e, e2, q⟩) fun _ _ z => z))
theorem wp_opBF {i j : Nat} {a b : D} {Q : D → S → Prop} (ha : peek s i = some a) (hb : peek s j = some b) (h : gFG a b Q s) : wp (mOpB oFdiv i j) s Q E := by
  with_unfolding_all
    obtain ⟨d, e, q⟩ := h
    exact wp_opB ha hb e q
def gPG (a b : D) (Q : D → S → Prop) (s : S) : Prop := ∃ d, oPow a b = some d ∧ Q d s
theorem gPG_of {a b d : D} {Q : D → S → Prop} (e : oPow a b = some d) (q : Q d s) : gPG a b Q s := by
  with_unfolding_all
    exact (⟨d, e, q⟩)
theorem wp_opP {ma mb : M D} {Q : D → S → Prop} (h : wp ma s (fun a s1 => wp mb s1 (fun b s2 => gPG (deref s2 a) (deref s2 b) Q s2) E) E) : wp (mOp oPow ma mb) s Q E := by
  with_unfolding_all
    exact (wp_op h)
theorem wp_opNP {i : Nat} {a0 : D} {mb : M D} {Q : D → S → Prop} (h0 : peek s i = some a0) (h : wp mb s (fun b s2 => ∃ a, peek s2 i = some a ∧ gPG a (deref s2 b) Q s2) E) : wp (mOpN oPow i mb) s Q E := by
  with_unfolding_all
    exact (wp_opN h0 (h.imp (fun b s2 ⟨a, e, d, e2, q⟩ => ⟨a, d, e, e2, q⟩) fun _ _ z => z))
theorem wp_opEP {ma : M D} {j : Nat} {Q : D → S → Prop} (h : wp ma s (fun a s2 => ∃ b, peek s2 j = some b ∧ gPG (deref s2 a) b Q s2) E) : wp (mOpE oPow ma j) s Q E := by
  with_unfolding_all
    exact (wp_opE (h.imp (fun b s2 ⟨a, e, d, e2, q⟩ => ⟨a, d, e, e2, q⟩) fun _ _ z => z))
theorem wp_opBP {i j : Nat} {a b : D} {Q : D → S → Prop} (ha : peek s i = some a) (hb : peek s j = some b) (h : gPG a b Q s) : wp (mOpB oPow i j) s Q E := by
  with_unfolding_all
    obtain ⟨d, e, q⟩ := h
    exact wp_opB ha hb e q
theorem gAG_i {a b : D} {i j : Int} {Q : D → S → Prop} (ea : a = .int i) (eb : b = .int j) (q : Q (.int (i + j)) s) : gAG a b Q s := by
  with_unfolding_all
    subst ea
    subst eb
    exact ⟨_, rfl, q⟩
theorem gMG_i {a b : D} {i j : Int} {Q : D → S → Prop} (ea : a = .int i) (eb : b = .int j) (hj : 0 < j) (q : Q (.int (i % j)) s) : gMG a b Q s := by
  with_unfolding_all
    subst ea
    subst eb
    refine ⟨.int (i % j), ?_, q⟩
    show (if decide (0 < j) = true then some (D.int (i % j)) else none) = _
    rw [if_pos (decide_eq_true hj)]
theorem wp_B {m : M D} {Q : Bool → S → Prop} (h : wp m s (fun d s' => ∃ b, d = .bl b ∧ Q b s') E) : wp (mB m) s Q E := by
  with_unfolding_all
    exact (wp_bnd (h.imp (fun d s' ⟨b, e, q⟩ => by subst e; exact q) fun _ _ z => z))
theorem wp_not {m : M Bool} {Q : Bool → S → Prop} (h : wp m s (fun b s' => Q (!b) s') E) : wp (mNot m) s Q E := by
  with_unfolding_all
    exact (wp_bnd h)
theorem wp_and {m n : M Bool} {Q : Bool → S → Prop} (h : wp m s (fun b s' => (b = true → wp n s' Q E) ∧ (b = false → Q false s')) E) : wp (mAnd m n) s Q E := by
  with_unfolding_all
    exact (wp_bnd (h.imp (fun b s' z => by
      cases b with
      | true => exact z.1 rfl
      | false => exact z.2 rfl) fun _ _ z => z))
theorem wp_or {m n : M Bool} {Q : Bool → S → Prop} (h : wp m s (fun b s' => (b = true → Q true s') ∧ (b = false → wp n s' Q E)) E) : wp (mOr m n) s Q E := by
  with_unfolding_all
    exact (wp_bnd (h.imp (fun b s' z => by
      cases b with
      | true => exact z.1 rfl
      | false => exact z.2 rfl) fun _ _ z => z))
theorem wp_andV {m n : M D} {Q : D → S → Prop} (h : wp m s (fun d s' => ∃ b, d = .bl b ∧ (b = true → wp n s' Q E) ∧ (b = false → Q (.bl false) s')) E) : wp (mAndV m n) s Q E := by
  with_unfolding_all
    exact (wp_bnd (h.imp (fun d s' ⟨b, e, z⟩ => by
      subst e
      cases b with
      | true => exact z.1 rfl
      | false => exact z.2 rfl) fun _ _ z => z))
theorem wp_orV {m n : M D} {Q : D → S → Prop} (h : wp m s (fun d s' => ∃ b, d = .bl b ∧ (b = true → Q (.bl true) s') ∧ (b = false → wp n s' Q E)) E) : wp (mOrV m n) s Q E := by
  with_unfolding_all
    exact (wp_bnd (h.imp (fun d s' ⟨b, e, z⟩ => by
      subst e
      cases b with
      | true => exact z.1 rfl
      | false => exact z.2 rfl) fun _ _ z => z))
theorem wp_notV {m : M D} {Q : D → S → Prop} (h : wp m s (fun d s' => ∃ b, d = .bl b ∧ Q (.bl (!b)) s') E) : wp (mNotV m) s Q E := by
  with_unfolding_all
    exact (wp_bnd (h.imp (fun d s' ⟨b, e, z⟩ => by subst e; exact z) fun _ _ z => z))
theorem wp_if {α : Type} {t : M Bool} {a b : M α} {Q : α → S → Prop} (h : wp t s (fun c s' => (c = true → wp a s' Q E) ∧ (c = false → wp b s' Q E)) E) : wp (mIf t a b) s Q E := by
  with_unfolding_all
    exact (wp_bnd (h.imp (fun c s' z => by
      cases c with
      | true => exact z.1 rfl
      | false => exact z.2 rfl) fun _ _ z => z))
theorem wp_ifS' {t : M Bool} {a b : MS} {Q : Flow → S → Prop} (h : wp t s (fun c s' => (c = true → wp a s' Q E) ∧ (c = false → wp b s' Q E)) E) : wp (mIfS t a b) s Q E := by
  with_unfolding_all
    exact (wp_bnd (h.imp (fun c s' z => by
      cases c with
      | true => exact z.1 rfl
      | false => exact z.2 rfl) fun _ _ z => z))
theorem wp_chain {o o' : O2} {ma mb mc : M D} {Q : D → S → Prop} (h : wp ma s (fun a s1 => wp mb s1 (fun b s2 => ∃ k, o (deref s2 a) (deref s2 b) = some (.bl k) ∧ (k = false → Q (.bl false) s2) ∧ (k = true → wp mc s2 (fun c s3 => ∃ d, o' (deref s3 b) (deref s3 c) = some d ∧ Q d s3) E)) E) E) : wp (mChain o o' ma mb mc) s Q E := by
  with_unfolding_all
    exact (wp_bnd (h.imp (fun a s1 z => wp_bnd (z.imp (fun b s2 ⟨k, e, z0, z1⟩ => wp_bnd (wp_fin e (by
        cases k with
        | false => exact z0 rfl
        | true => exact wp_bnd ((z1 rfl).imp (fun c s3 ⟨d, e3, q⟩ => wp_fin e3 q) fun _ _ z => z)))) fun _ _ z => z)) fun _ _ z => z))
theorem wp_args {m : M (List D)} {Q : List D → S → Prop} (h : wp m s (fun ds s' => Q (ds.map (deref s')) s') E) : wp (mArgs m) s Q E := by
  with_unfolding_all
    exact (wp_bnd h)
theorem wp_look {i : Nat} {d : D} {Q : List D → S → Prop} (h : peek s i = some d) (q : Q [d] s) : wp (mLook i) s Q E := by
  with_unfolding_all
    unfold wp mLook; simp only [h]; exact q
theorem wp_argF {m : M (List D)} {Q : List D → S → Prop} (h : wp m s (fun ds s' => Q [.lst ds] s') E) : wp (mArgF m) s Q E := by
  with_unfolding_all
    exact (wp_bnd h)
theorem wp_callS {o : OC} {m : M (List D)} {Q : D → S → Prop} (h : wp m s (fun ds s' => ∃ d, o ds = some d ∧ Q d s') E) : wp (mCallS o m) s Q E := by
  with_unfolding_all
    exact (wp_bnd (h.imp (fun ds s' ⟨d, e, q⟩ => wp_fin e q) fun _ _ z => z))
def isaG (ds : List D) (Q : D → S → Prop) (s : S) : Prop := ∃ d, oIsa ds = some d ∧ Q d s
theorem isaG_t {ds : List D} {Q : D → S → Prop} (e : oIsa ds = some (.bl true)) (q : Q (.bl true) s) : isaG ds Q s := by
  with_unfolding_all
    exact (⟨_, e, q⟩)
theorem isaG_f {ds : List D} {Q : D → S → Prop} (e : oIsa ds = some (.bl false)) (q : Q (.bl false) s) : isaG ds Q s := by
  with_unfolding_all
    exact (⟨_, e, q⟩)
theorem wp_isa {m : M (List D)} {Q : D → S → Prop} (h : wp m s (fun ds s' => isaG ds Q s') E) : wp (mCallS oIsa m) s Q E := by
  with_unfolding_all
    exact (wp_callS h)
theorem wp_callF {o : List D → Option (List D)} {m : M (List D)} {Q : List D → S → Prop} (h : wp m s (fun ds s' => grd (∃ d, o ds = some d ∧ Q d s')) E) : wp (mCallF o m) s Q E := by
  with_unfolding_all
    exact (wp_bnd (h.imp (fun ds s' ⟨d, e, q⟩ => by
      unfold wp
      simp only [e]
      exact q) fun _ _ z => z))
theorem wp_part {m : M D} {Q : Option Int → S → Prop} (h : wp m s (fun d s' => ∃ i, d = .int i ∧ Q (some i) s') E) : wp (mPart m) s Q E := by
  with_unfolding_all
    exact (wp_bnd (h.imp (fun d s' ⟨i, e, q⟩ => by subst e; exact q) fun _ _ z => z))
theorem wp_neg {m : M D} {Q : D → S → Prop} (h : wp m s (fun d s' => ∃ i, d = .int i ∧ Q (.int (-i)) s') E) : wp (mNeg m) s Q E := by
  with_unfolding_all
    exact (wp_bnd (h.imp (fun d s' ⟨i, e, q⟩ => by subst e; exact q) fun _ _ z => z))
theorem wp_sl {ma : M D} {ml mh : M (Option Int)} {Q : D → S → Prop} (h : wp ma s (fun a s1 => wp ml s1 (fun lo s2 => wp mh s2 (fun hi s3 => ∃ d, oSl (deref s3 a) lo hi = some d ∧ Q d s3) E) E) E) : wp (mSl ma ml mh) s Q E := by
  with_unfolding_all
    exact (wp_bnd (h.imp (fun a s1 z => wp_bnd (z.imp (fun lo s2 z => wp_bnd (z.imp (fun hi s3 ⟨d, e, q⟩ => wp_fin e q) fun _ _ z => z)) fun _ _ z => z)) fun _ _ z => z))
theorem wp_slN {i : Nat} {a0 : D} {ml mh : M (Option Int)} {Q : D → S → Prop} (h0 : peek s i = some a0) (h : wp ml s (fun lo s2 => wp mh s2 (fun hi s3 => ∃ a d, peek s3 i = some a ∧ oSl a lo hi = some d ∧ Q d s3) E) E) : wp (mSlN i ml mh) s Q E := by
  with_unfolding_all
    unfold wp mSlN
    simp only [h0]
    exact wp_bnd (h.imp (fun lo s2 z => wp_bnd (z.imp (fun hi s3 ⟨a, d, e, e2, q⟩ => by
      unfold wp
      simp only [e, e2, fin]
      exact q) fun _ _ z => z)) fun _ _ z => z)
theorem wp_fld {cn f : Str} {m : M D} {Q : D → S → Prop} (h : wp m s (fun d s' => ∃ fs v, d = .ins cn fs ∧ fs.lookup f = some v ∧ Q v s') E) : wp (mFld cn f m) s Q E := by
  with_unfolding_all
    exact (wp_bnd (h.imp (fun d s' ⟨fs, v, e, e2, q⟩ => by
      subst e
      simp only [if_true, e2]
      exact q) fun _ _ z => z))
def wpC (F : Fn) (ds : List D) (s : S) (Q : D → S → Prop) (E : Exc → S → Prop) : Prop := wpF F ds s.cells (fun d c => Q d ⟨s.env, c⟩) fun e c => E e ⟨s.env, c⟩
theorem wpC_in {F : Fn} {ds : List D} {env : List (Option Slot)} {cells : List Cell} {Q : D → S → Prop} {E : Exc → S → Prop} (h : wpF F ds cells (fun d c => Q d ⟨env, c⟩) fun e c => E e ⟨env, c⟩) : wpC F ds ⟨env, cells⟩ Q E := by
  with_unfolding_all
    exact (h)
theorem wp_call {F : Fn} {m : M (List D)} {Q : D → S → Prop} (h : wp m s (fun ds s1 => wpC F ds s1 Q E) E) : wp (mCall F m) s Q E := by
  with_unfolding_all
    exact (wp_bnd (h.imp (fun ds s1 z => by
      unfold wpC wpF at z
      unfold wp
      cases hF : F ds s1.cells with
      | ok d c => rw [hF] at z; simp only [hF]; exact z
      | exc x c => rw [hF] at z; simp only [hF]; exact z
      | bad => rw [hF] at z; exact z.elim) fun _ _ z => z))
theorem wp_mut {f : List D → List D → Option (D × List D)} {i : Nat} {m : M (List D)} {Q : D → S → Prop} {ds0 : List D} (h0 : getL s i = some ds0) (h : wp m s (fun as s1 => ∃ ds, getL s1 i = some ds ∧ grd (∃ v ds', f ds as = some (v, ds') ∧ putK Q v i ds' s1)) E) : wp (mMut f i m) s Q E := by
  with_unfolding_all
    unfold wp mMut
    simp only [h0]
    exact wp_bnd (h.imp (fun as s1 ⟨ds, e1, v, ds', e2, q⟩ => by
      unfold wp
      simp only [e1, e2]
      exact q) fun _ _ z => z)
theorem wp_mut0 {f : List D → List D → Option (D × List D)} {i : Nat} {Q : D → S → Prop} {ds ds' : List D} {v : D} (h0 : getL s i = some ds) (h1 : f ds [] = some (v, ds')) (h : putK Q v i ds' s) : wp (mMut0 f i) s Q E := by
  with_unfolding_all
    unfold wp mMut0
    simp only [h0, h1]
    exact h
theorem wp_yes {Q : Bool → S → Prop} (h : Q true s) : wp mYes s Q E := by
  with_unfolding_all
    exact (wp_ok rfl h)
theorem wp_rng {m : M (List D)} {Q : List D → S → Prop} (h : wp m s (fun ds s' => grd (∃ r, rngI ds = some r ∧ Q r s')) E) : wp (mRng m) s Q E := by
  with_unfolding_all
    exact (wp_bnd (h.imp (fun ds s' ⟨d, e, q⟩ => wp_fin2 e q) fun _ _ z => z))
theorem wp_items {m : M D} {Q : List D → S → Prop} (h : wp m s (fun d s' => ∃ r, itemsI d = some r ∧ Q r s') E) : wp (mItems m) s Q E := by
  with_unfolding_all
    exact (wp_bnd (h.imp (fun ds s' ⟨d, e, q⟩ => wp_fin2 e q) fun _ _ z => z))
theorem wp_enum {m : M (List D)} {Q : List D → S → Prop} (h : wp m s (fun ds s' => ∃ r, enumI ds = some r ∧ Q r s') E) : wp (mEnum m) s Q E := by
  with_unfolding_all
    exact (wp_bnd (h.imp (fun ds s' ⟨d, e, q⟩ => wp_fin2 e q) fun _ _ z => z))
theorem wp_zip {m : M (List D)} {Q : List D → S → Prop} (h : wp m s (fun ds s' => ∃ r, zipI ds = some r ∧ Q r s') E) : wp (mZip m) s Q E := by
  with_unfolding_all
    exact (wp_bnd (h.imp (fun ds s' ⟨d, e, q⟩ => wp_fin2 e q) fun _ _ z => z))
theorem wp_alloc {m : M (List D)} {Q : D → S → Prop} (h : wp m s (fun ds s' => Q (.cel s'.cells.length) ⟨s'.env, s'.cells ++ [.lst ds]⟩) E) : wp (mAlloc m) s Q E := by
  with_unfolding_all
    exact (wp_bnd h)
theorem wp_raise {m : M Exc} {Q : Flow → S → Prop} {e : Exc} {s' : S} (h : m s = .ok e s') (q : E e s') : wp (mRaise m) s Q E := by
  with_unfolding_all
    unfold wp mRaise
    simp only [h]
    exact q
theorem wp_raiseR {e : Exc} {Q : Flow → S → Prop} (q : E e s) : wp (mRaise (ret e)) s Q E := wp_raise rfl q
theorem wp_raise1 {x f : Str} {m : M D} {Q : Flow → S → Prop} (h : wp m s (fun d s' => ∃ n, d = .int n ∧ Nat.blt n.natAbs.log2 1920 = true ∧ E ⟨x, [(f, .int n)]⟩ s') NoE) : wp (mRaise (bnd m (mkI1 x f))) s Q E := by
  obtain ⟨d, s', e, n, rfl, hn, q⟩ := wp_ex h
  refine wp_raise (s' := s') (e := ⟨x, [(f, .int n)]⟩) ?_ q
  unfold bnd mkI1
  simp only [e, hn, if_true]
  rfl
theorem wp_try {exm : Str → Str → Option Bool} {mb : MS} {hs : List DH} {Q : Flow → S → Prop} (h : wp mb s Q (fun e s' => wp (tryGo exm e hs) s' Q E)) : wp (mTry exm mb hs) s Q E := by
  with_unfolding_all
    unfold wp mTry at *
    cases hm : mb s with
    | ok f s' => rw [hm] at h; exact h
    | exc x s' => rw [hm] at h; exact h
    | bad => rw [hm] at h; exact h
theorem and_ff {b : Bool} {A B : Prop} (e : b = false) (h : B) : (b = true → A) ∧ (b = false → B) := by
  with_unfolding_all
    exact (⟨fun z => Bool.noConfusion (e.symm.trans z), fun _ => h⟩)
theorem and_tt {b : Bool} {A B : Prop} (e : b = true) (h : A) : (b = true → A) ∧ (b = false → B) := by
  with_unfolding_all
    exact (⟨fun _ => h, fun z => Bool.noConfusion (e.symm.trans z)⟩)
theorem and_ft {b : Bool} {A B : Prop} (e : b = true) (h : B) : (b = false → A) ∧ (b = true → B) := by
  with_unfolding_all
    exact (⟨fun z => Bool.noConfusion (e.symm.trans z), fun _ => h⟩)
theorem and_fff {b : Bool} {A B : Prop} (e : b = false) (h : A) : (b = false → A) ∧ (b = true → B) := by
  with_unfolding_all
    exact (⟨fun _ => h, fun z => Bool.noConfusion (e.symm.trans z)⟩)
theorem bltG {m n : Nat} {A : Prop} (e : Nat.blt m n = true) (h : A) : Nat.blt m n = true ∧ A := ⟨e, h⟩
theorem smallG {ds : List D} {A : Prop} (e : small ds = true) (h : A) : small ds = true ∧ A := ⟨e, h⟩
theorem nn_t {A B : Prop} (h : B) : ((!true) = true → A) ∧ ((!true) = false → B) := by
  with_unfolding_all
    exact (and_ff rfl h)
theorem nn_f {A B : Prop} (h : A) : ((!false) = true → A) ∧ ((!false) = false → B) := by
  with_unfolding_all
    exact (and_tt rfl h)
theorem bb_t {A B : Prop} (h : A) : (true = true → A) ∧ (true = false → B) := by
  with_unfolding_all
    exact (and_tt rfl h)
theorem bb_f {A B : Prop} (h : B) : (false = true → A) ∧ (false = false → B) := by
  with_unfolding_all
    exact (and_ff rfl h)
theorem cc_t {A B : Prop} (h : B) : (true = false → A) ∧ (true = true → B) := by
  with_unfolding_all
    exact (and_ft rfl h)
theorem cc_f {A B : Prop} (h : A) : (false = false → A) ∧ (false = true → B) := by
  with_unfolding_all
    exact (and_fff rfl h)
theorem and_it {x y : Bool} {A B : Prop} (h : (x = true → A) ∧ (x = false → B)) : ((if true = true then x else y) = true → A) ∧ ((if true = true then x else y) = false → B) := by
  with_unfolding_all
    exact (h)
theorem and_if {x y : Bool} {A B : Prop} (h : (y = true → A) ∧ (y = false → B)) : ((if false = true then x else y) = true → A) ∧ ((if false = true then x else y) = false → B) := by
  with_unfolding_all
    exact (h)
theorem nonD_t {d : D} {A B : Prop} (e : isNonD d = true) (h : A) : (isNonD d = true → A) ∧ (isNonD d = false → B) := by
  with_unfolding_all
    exact (and_tt e h)
theorem nonD_f {d : D} {A B : Prop} (e : isNonD d = false) (h : B) : (isNonD d = true → A) ∧ (isNonD d = false → B) := by
  with_unfolding_all
    exact (and_ff e h)
theorem nnonD_t {d : D} {A B : Prop} (e : isNonD d = true) (h : B) : ((!isNonD d) = true → A) ∧ ((!isNonD d) = false → B) := by
  with_unfolding_all
    exact (and_ff (by rw [e] <;> rfl) h)
theorem nnonD_f {d : D} {A B : Prop} (e : isNonD d = false) (h : A) : ((!isNonD d) = true → A) ∧ ((!isNonD d) = false → B) := by
  with_unfolding_all
    exact (and_tt (by rw [e] <;> rfl) h)
theorem and_nt {p : Prop} [Decidable p] {A B : Prop} (e : p) (h : B) : ((!decide p) = true → A) ∧ ((!decide p) = false → B) := by
  with_unfolding_all
    exact (and_ff (by rw [decide_eq_true e] <;> rfl) h)
theorem and_nf {p : Prop} [Decidable p] {A B : Prop} (e : ¬p) (h : A) : ((!decide p) = true → A) ∧ ((!decide p) = false → B) := by
  with_unfolding_all
    exact (and_tt (by rw [decide_eq_false e] <;> rfl) h)
theorem and_dt {p : Prop} [Decidable p] {A B : Prop} (e : p) (h : A) : (decide p = true → A) ∧ (decide p = false → B) := by
  with_unfolding_all
    exact (and_tt (decide_eq_true e) h)
theorem and_df {p : Prop} [Decidable p] {A B : Prop} (e : ¬p) (h : B) : (decide p = true → A) ∧ (decide p = false → B) := by
  with_unfolding_all
    exact (and_ff (decide_eq_false e) h)
theorem and_dct {p : Prop} [Decidable p] {A B : Prop} (e : p) (h : B) : (decide p = false → A) ∧ (decide p = true → B) := by
  with_unfolding_all
    exact (and_ft (decide_eq_true e) h)
theorem and_dcf {p : Prop} [Decidable p] {A B : Prop} (e : ¬p) (h : A) : (decide p = false → A) ∧ (decide p = true → B) := by
  with_unfolding_all
    exact (and_fff (decide_eq_false e) h)
theorem wp_hdN {exm : Str → Str → Option Bool} {h : DH} {hs : List DH} {e : Exc} {Q : Flow → S → Prop} (k : exm e.cls h.cls = some false) (q : wp (tryGo exm e hs) s Q E) : wp (tryGo exm e (h :: hs)) s Q E := by
  with_unfolding_all
    unfold wp tryGo at *
    simp only [k]
    cases hs <;> exact q
end
end DM
set_option Elab.async false
set_option linter.all false
set_option maxRecDepth 100000
set_option maxHeartbeats 1000000
namespace DM
open PySem
theorem wp_dcOne {tk tv : M D} {s : S} {Q : List (L2.Key × D) → S → Prop} (h : wp tk s (fun kd s1 => wp tv s1 (fun d s2 => ∃ k, keyD kd = some k ∧ Q [(k, d)] s2) NoE) NoE) : wp (dcOne tk tv) s Q NoE := by
  obtain ⟨kd, s1, e1, h1⟩ := wp_ex h
  obtain ⟨d, s2, e2, k, e3, q⟩ := wp_ex h1
  unfold wp dcOne
  simp only [e1, e2, e3]
  exact q
theorem wp_dcomp {mi : M (List D)} {go : List D → M (List (L2.Key × D))} {vs : List Nat} {s : S} {Q : D → S → Prop} {E : Exc → S → Prop} (h : wp mi s (fun items s1 => wpW (go items) vs s1 (fun ys s2 => Nat.ble ys.length 1000000 = true ∧ backK Q (.dicK (putAll [] ys)) vs s1 s2) NoE) E) : wp (mDComp mi go vs) s Q E := by
  refine wp_bnd (h.imp (fun items s1 z => ?_) fun _ _ z => z)
  obtain ⟨ys, s2, e, hs, hq⟩ := wp_ex z
  unfold wp
  simp only [e, hs, if_true]
  exact hq
theorem wpF_excEq {F : Fn} {ds : List D} {cells c : List Cell} {e : Exc} (h : wpF F ds cells (fun _ _ => False) (fun e' c' => e' = e ∧ c' = c)) : F ds cells = .exc e c := by
  unfold wpF at h
  cases hm : F ds cells with
  | ok a s' => rw [hm] at h; exact h.elim
  | exc x s' => rw [hm] at h; obtain ⟨rfl, rfl⟩ := h; rfl
  | bad => rw [hm] at h; exact h.elim
def keysD (a : List (L2.Key × D)) : List L2.Key := a.map (·.1)
theorem keys_put_in {a : List (L2.Key × D)} {k : L2.Key} (v : D) (h : k ∈ keysD a) : keysD (putKD a k v) = keysD a := by
  unfold putKD
  have h2 : (a.any fun q => decide (q.1 = k)) = true := by
    rw [List.any_eq_true]
    obtain ⟨q, hq, e⟩ := List.mem_map.mp h
    exact ⟨q, hq, decide_eq_true e⟩
  rw [if_pos h2]
  unfold keysD
  rw [List.map_map]
  refine List.map_congr_left fun q _ => ?_
  show (if q.1 = k then (q.1, v) else q).1 = q.1
  split <;> rfl
theorem keys_put_new {a : List (L2.Key × D)} {k : L2.Key} (v : D) (h : ¬k ∈ keysD a) : keysD (putKD a k v) = keysD a ++ [k] := by
  unfold putKD
  have h2 : ¬(a.any fun q => decide (q.1 = k)) = true := by
    rw [List.any_eq_true]
    rintro ⟨q, hq, e⟩
    exact h (List.mem_map.mpr ⟨q, hq, of_decide_eq_true e⟩)
  rw [if_neg h2]
  unfold keysD
  rw [List.map_append] <;> rfl
theorem putAll_cons (a : List (L2.Key × D)) (y : L2.Key × D) (ys : List (L2.Key × D)) : putAll a (y :: ys) = putAll (putKD a y.1 y.2) ys := rfl
theorem keysD_len (a : List (L2.Key × D)) : (keysD a).length = a.length := List.length_map ..
theorem putAll_size : ∀ (ys : List (L2.Key × D)) (a : List (L2.Key × D)), (keysD a).Nodup → (putAll a ys).length ≤ a.length + ys.length ∧ ((putAll a ys).length = a.length + ys.length ↔ (keysD a ++ keysD ys).Nodup)
  | [], a, ha => by
    refine ⟨Nat.le_refl _, ?_⟩
    show a.length = a.length + 0 ↔ _
    simp only [Nat.add_zero, true_iff, keysD, List.map_nil, List.append_nil]
    exact ha
  | y :: ys, a, ha => by
    rw [putAll_cons]
    by_cases h : y.1 ∈ keysD a
    · have hk := keys_put_in y.2 h
      have hl : (putKD a y.1 y.2).length = a.length := by rw [← keysD_len, hk, keysD_len]
      have ih := putAll_size ys (putKD a y.1 y.2) (by rw [hk]; exact ha)
      rw [hl] at ih
      rw [List.length_cons]
      refine ⟨by omega, ⟨fun z => by omega, fun z => ?_⟩⟩
      have z2 := (List.nodup_append.mp z).2.2 y.1 h y.1 (by unfold keysD; simp)
      exact absurd rfl z2
    · have hk := keys_put_new y.2 h
      have hl : (putKD a y.1 y.2).length = a.length + 1 := by rw [← keysD_len, hk, List.length_append, keysD_len] <;> rfl
      have hn : (keysD a ++ [y.1]).Nodup := by
        rw [List.nodup_append]
        refine ⟨ha, by simp, fun x hx z hz => ?_⟩
        rw [List.mem_singleton] at hz
        subst hz
        exact fun e => h (e ▸ hx)
      have ih := putAll_size ys (putKD a y.1 y.2) (by rw [hk]; exact hn)
      rw [hl, hk] at ih
      rw [List.length_cons]
      have e : keysD a ++ [y.1] ++ keysD ys = keysD a ++ keysD (y :: ys) := by unfold keysD; simp
      rw [e] at ih
      refine ⟨by omega, ?_⟩
      rw [← ih.2]
      omega
theorem wp_lcSub {α γ : Type} {f : D → M Unit} {tt : M Bool} {inner : M (List α)} {vs : List Nat} {xs : List γ} {env : List (Option Slot)} {cells : List Cell} {Q : List α → S → Prop} {E : Exc → S → Prop} (e : γ → D) (g : γ → α) (J : Nat → List Cell → Prop)
    (h : ∀ x ∈ xs, ∀ k cells, J (k + 1) cells → wpI f tt inner vs (e x) ⟨env, cells⟩ fun ys s' => (ys = [] ∨ ys = [g x]) ∧ s'.env = env ∧ J k s'.cells) (hJ : J xs.length cells) (q : ∀ (xs' : List γ) (cells' : List Cell), xs'.Sublist xs → J 0 cells' → Q (xs'.map g) ⟨env, cells'⟩) : wp (lcGo f tt inner vs (xs.map e)) ⟨env, cells⟩ Q E := by
  have key : ∀ (rem : List γ) (cells : List Cell), (∀ x ∈ rem, x ∈ xs) → J rem.length cells → wp (lcGo f tt inner vs (rem.map e)) ⟨env, cells⟩ (fun ys s' => ∃ xs' : List γ, xs'.Sublist rem ∧ ys = xs'.map g ∧ s'.env = env ∧ J 0 s'.cells) NoE := by
    intro rem
    induction rem with
    | nil =>
      intro cells _ hj
      exact wp_ok rfl ⟨[], List.Sublist.refl _, rfl, rfl, hj⟩
    | cons x r ih =>
      intro cells hm hj
      have h1 := h x (hm x List.mem_cons_self) r.length cells hj
      obtain ⟨s1, hf, h2⟩ := wpU_ex h1
      obtain ⟨b, s2, hb, h3⟩ := wp_ex h2
      have fin : ∀ ys (s3 : S), ((ys = [] ∨ ys = [g x]) ∧ s3.env = env ∧ J r.length s3.cells) → wp (lcGo f tt inner vs (r.map e)) s3 (fun zs s' => ∃ xs' : List γ, xs'.Sublist (x :: r) ∧ ys ++ zs = xs'.map g ∧ s'.env = env ∧ J 0 s'.cells) NoE := by
        rintro ys ⟨e3, c3⟩ ⟨hy, rfl, hj3⟩
        refine (ih c3 (fun z hz => hm z (List.mem_cons_of_mem _ hz)) hj3).imp (fun zs s' z => ?_) fun _ _ z => z
        obtain ⟨xs', hs, rfl, he, hj4⟩ := z
        rcases hy with rfl | rfl
        · exact ⟨xs', hs.cons x, rfl, he, hj4⟩
        · exact ⟨x :: xs', hs.cons_cons x, rfl, he, hj4⟩
      unfold wp lcGo
      simp only [List.map_cons, hf, hb]
      cases b with
      | true =>
        obtain ⟨ys, s3, hn, h4⟩ := wp_ex h3
        obtain ⟨zs, s4, hz, h5⟩ := wp_ex (fin ys _ h4)
        simp only [hn, hz]
        exact h5
      | false =>
        obtain ⟨zs, s4, hz, h5⟩ := wp_ex (fin [] _ h3)
        simp only [hz]
        exact h5
  refine (key xs cells (fun _ z => z) hJ).imp (fun ys s' z => ?_) fun _ _ z => z.elim
  obtain ⟨xs', hs, rfl, he, hj⟩ := z
  obtain ⟨e', c'⟩ := s'
  have he : e' = env := he
  subst he
  exact q xs' c' hs hj
theorem wp_lcVal {α β γ : Type} {f : D → M Unit} {tt : M Bool} {inner : M (List α)} {vs : List Nat} {xs : List γ} {env : List (Option Slot)} {cells : List Cell} {Q : List α → S → Prop} {E : Exc → S → Prop} (e : γ → D) (g : β → α) (p : β → Prop) (J : Nat → List Cell → Prop)
    (h : ∀ x ∈ xs, ∀ k cells, J (k + 1) cells → wpI f tt inner vs (e x) ⟨env, cells⟩ fun ys s' => (∃ b, ys = [g b] ∧ p b) ∧ s'.env = env ∧ J k s'.cells) (hJ : J xs.length cells) (q : ∀ (bs : List β) (cells' : List Cell), bs.length = xs.length → (∀ b ∈ bs, p b) → J 0 cells' → Q (bs.map g) ⟨env, cells'⟩) : wp (lcGo f tt inner vs (xs.map e)) ⟨env, cells⟩ Q E := by
  have key : ∀ (rem : List γ) (cells : List Cell), (∀ x ∈ rem, x ∈ xs) → J rem.length cells → wp (lcGo f tt inner vs (rem.map e)) ⟨env, cells⟩ (fun ys s' => ∃ bs : List β, bs.length = rem.length ∧ (∀ b ∈ bs, p b) ∧ ys = bs.map g ∧ s'.env = env ∧ J 0 s'.cells) NoE := by
    intro rem
    induction rem with
    | nil =>
      intro cells _ hj
      exact wp_ok rfl ⟨[], rfl, (fun b hb => by cases hb), rfl, rfl, hj⟩
    | cons x r ih =>
      intro cells hm hj
      have h1 := h x (hm x List.mem_cons_self) r.length cells hj
      obtain ⟨s1, hf, h2⟩ := wpU_ex h1
      obtain ⟨b, s2, hb, h3⟩ := wp_ex h2
      have fin : ∀ ys (s3 : S), ((∃ b, ys = [g b] ∧ p b) ∧ s3.env = env ∧ J r.length s3.cells) → wp (lcGo f tt inner vs (r.map e)) s3 (fun zs s' => ∃ bs : List β, bs.length = (x :: r).length ∧ (∀ b ∈ bs, p b) ∧ ys ++ zs = bs.map g ∧ s'.env = env ∧ J 0 s'.cells) NoE := by
        rintro ys ⟨e3, c3⟩ ⟨⟨b, rfl, hp⟩, rfl, hj3⟩
        refine (ih c3 (fun z hz => hm z (List.mem_cons_of_mem _ hz)) hj3).imp (fun zs s' z => ?_) fun _ _ z => z
        obtain ⟨bs, hl, hbs, rfl, he, hj4⟩ := z
        refine ⟨b :: bs, by rw [List.length_cons, hl, List.length_cons], fun a ha => ?_, rfl, he, hj4⟩
        rcases List.mem_cons.mp ha with rfl | ha
        · exact hp
        · exact hbs a ha
      unfold wp lcGo
      simp only [List.map_cons, hf, hb]
      cases b with
      | true =>
        obtain ⟨ys, s3, hn, h4⟩ := wp_ex h3
        obtain ⟨zs, s4, hz, h5⟩ := wp_ex (fin ys _ h4)
        simp only [hn, hz]
        exact h5
      | false =>
        obtain ⟨zs, s4, hz, h5⟩ := wp_ex (fin [] _ h3)
        simp only [hz]
        exact h5
  refine (key xs cells (fun _ z => z) hJ).imp (fun ys s' z => ?_) fun _ _ z => z.elim
  obtain ⟨bs, hl, hbs, rfl, he, hj⟩ := z
  obtain ⟨e', c'⟩ := s'
  have he : e' = env := he
  subst he
  exact q bs c' hl hbs hj
theorem putK_own {α : Type} {Q : α → S → Prop} {a : α} {i : Nat} {ds ds0 : List D} {env env' : List (Option Slot)} {cells : List Cell} (o : env[i]? = some (some (.own ds0))) (e : env.set i (some (.own ds)) = env') (h : Q a ⟨env', cells⟩) : putK Q a i ds ⟨env, cells⟩ := putK_in (ds' := ds) o e h
theorem forK_nx {I : List D → S → Prop} {ds : List D} {Q : Flow → S → Prop} {s : S} (h : I ds s) : forK I ds Q .nx s := h
def leaves (Q : Flow → S → Prop) : Flow → S → Prop
  | .nx, _ => False
  | f, s => Q f s
theorem leaves_rt {Q : Flow → S → Prop} {d : D} {s : S} (h : Q (.rt d) s) : leaves Q (.rt d) s := h
theorem wp_if_or {t : M Bool} {a b : MS} {s : S} {Q : Flow → S → Prop} {E : Exc → S → Prop} (R : S → Prop) (h : wp t s (fun c s' => (c = true → wp a s' (leaves Q) E) ∧ (c = false → R s')) E) (k : ∀ s', R s' → wp b s' Q E) : wp (mSeq (mIfS t a mNext) b) s Q E := by
  refine wp_seq (wp_ifS' (h.imp (fun c s' z => ?_) fun _ _ z => z))
  refine ⟨fun hc => (z.1 hc).imp (fun f s2 q => ?_) fun _ _ z => z, fun hc => wp_next (k s' (z.2 hc))⟩
  cases f with
  | nx => exact q.elim
  | rt d => exact q
  | bk => exact q
  | ct => exact q
theorem par2 {x y : D} {K : D → D → Prop} (h : K x y) : ∃ a b, [x, y] = [a, b] ∧ K a b := ⟨x, y, rfl, h⟩
theorem wp_mid {a b : MS} {s : S} {Q : Flow → S → Prop} {E : Exc → S → Prop} (R : S → Prop) (h : wp a s (fun f s' => f = .nx ∧ R s') NoE) (k : ∀ s', R s' → wp b s' Q E) : wp (mSeq a b) s Q E := by
  refine wp_seq (h.imp (fun f s' z => ?_) fun _ _ z => z.elim)
  obtain ⟨rfl, r⟩ := z
  exact k s' r
end DM
set_option Elab.async false
set_option linter.all false
set_option maxRecDepth 100000
set_option maxHeartbeats 1000000
namespace DM
open PySem
theorem wpF_exc {F : Fn} {ds : List D} {cells c : List Cell} {e : Exc} {Q : D → List Cell → Prop} {E : Exc → List Cell → Prop} (h : F ds cells = .exc e c) (q : E e c) : wpF F ds cells Q E := by
  unfold wpF
  rw [h]
  exact q
theorem wp_hdT {exm : Str → Str → Option Bool} {h : DH} {hs : List DH} {e : Exc} {s : S} {Q : Flow → S → Prop} {E : Exc → S → Prop} (hn : h.slot = none) (k : exm e.cls h.cls = some true) (q : wp h.body s (fun f s' => tidy s' = true ∧ Q f s') NoE) : wp (tryGo exm e (h :: hs)) s Q E := by
  obtain ⟨f, s', e1, ht, hq⟩ := wp_ex q
  unfold wp tryGo runDH leaveH
  simp only [k, hn, e1, ht, if_true]
  exact hq
theorem wp_hdE {exm : Str → Str → Option Bool} {h : DH} {hs : List DH} {e : Exc} {i : Nat} {env env1 : List (Option Slot)} {cells : List Cell} {Q : Flow → S → Prop} {E : Exc → S → Prop} (hn : h.slot = some i) (k : exm e.cls h.cls = some true) (ee : env.set i (excSl e) = env1)
    (q : wp h.body ⟨env1, cells⟩ (fun f s' => tidy ⟨s'.env.set i none, s'.cells⟩ = true ∧ Q f ⟨s'.env.set i none, s'.cells⟩) NoE) : wp (tryGo exm e (h :: hs)) ⟨env, cells⟩ Q E := by
  obtain ⟨f, s', e1, ht, hq⟩ := wp_ex q
  unfold wp tryGo runDH leaveH
  simp only [k, hn, ee, e1, ht, if_true]
  exact hq
theorem wp_xf {cn f : Str} {i : Nat} {fs : List (Str × D)} {v : D} {s : S} {Q : D → S → Prop} {E : Exc → S → Prop} (h : s.env[i]? = some (some (.exn cn fs))) (l : fs.lookup f = some v) (q : Q v s) : wp (mXf cn i f) s Q E := by
  unfold wp mXf
  simp only [h, if_true, l]
  exact q
end DM
set_option Elab.async false
set_option linter.all false
set_option maxRecDepth 100000
set_option maxHeartbeats 1000000
namespace LB
open PySem DM
def b_is_integer : MS :=
  (mRet (mAndV (mCallS oIsa (mArgs (mCons (mVar 0) (mCons (ret (.ty "int")) mNil)))) (mNotV (mCallS oIsa (mArgs (mCons (mVar 0) (mCons (ret (.ty "bool")) mNil)))))))
def F_is_integer : Fn := runFn 1 b_is_integer
def b_is_count : MS :=
  (mRet (mAndV (mCall F_is_integer (mCons (mVar 0) mNil)) (mOpN oGe 0 (ret (.int 0)))))
def F_is_count : Fn := runFn 1 b_is_count
def b_is_name_1 : MS :=
  (mRet (mCallS oAll (mArgF (mComp (mItems (mVar 0)) (lcGo (tName 1) mYes (lcOne (mOrV (mOpN (oIn false) 1 (ret (.str "abcdefghijklmnopqrstuvwxyz"))) (mOpN (oIn false) 1 (ret (.str "0123456789"))))) [1]) [1]))))
def b_is_name : MS :=
  (mSeq (mIfS (mOr (mNot (mB (mCallS oIsa (mArgs (mCons (mVar 0) (mCons (ret (.ty "str")) mNil)))))) (mOr (mNot (mB (mChain oLe oLe (ret (.int 1)) (mCallS oLen (mLook 0)) (ret (.int 8))))) (mB (mOp (oIn true) (mOpN oIx 0 (ret (.int 0))) (ret (.str "abcdefghijklmnopqrstuvwxyz")))))) (mRet (ret (.bl false))) mNext)
  b_is_name_1)
def F_is_name : Fn := runFn 2 b_is_name
def b_is_rising_1 : MS :=
  (mRet (mCallS oAll (mArgF (mComp (mZip (mCons (mSlN 0 (ret none) (mPart (mNeg (ret (.int 1))))) (mCons (mSlN 0 (mPart (ret (.int 1))) (ret none)) mNil))) (lcGo (tTup 2 (tsCons (tName 1) (tsCons (tName 2) tsNil))) mYes (lcOne (mOpB oLt 1 2)) [1, 2]) [1, 2]))))
def b_is_rising : MS :=
  (mSeq (mIfS (mOr (mNot (mB (mCallS oIsa (mArgs (mCons (mVar 0) (mCons (ret (.ty "tuple")) mNil)))))) (mNot (mB (mCallS oAll (mArgF (mComp (mItems (mVar 0)) (lcGo (tName 1) mYes (lcOne (mCall F_is_count (mCons (mVar 1) mNil))) [1]) [1])))))) (mRet (ret (.bl false))) mNext)
  b_is_rising_1)
def F_is_rising : Fn := runFn 3 b_is_rising
def b_is_place_1 : MS :=
  (mRet (mCallS oAll (mArgF (mComp (mItems (mOpN oIx 0 (ret (.int 1)))) (lcGo (tName 2) mYes (lcOne (mOpB oLt 2 1)) [2]) [2]))))
def b_is_place : MS :=
  (mSeq (mIfS (mOr (mNot (mB (mCallS oIsa (mArgs (mCons (mVar 0) (mCons (ret (.ty "tuple")) mNil)))))) (mOr (mB (mOp (oEqD true) (mCallS oLen (mLook 0)) (ret (.int 2)))) (mOr (mNot (mB (mCall F_is_name (mCons (mOpN oIx 0 (ret (.int 0))) mNil)))) (mNot (mB (mCall F_is_rising (mCons (mOpN oIx 0 (ret (.int 1))) mNil))))))) (mRet (ret (.bl false))) mNext)
  b_is_place_1)
def F_is_place : Fn := runFn 3 b_is_place
def b_is_program_1 : MS :=
  (mRet (mCallS oAll (mArgF (mComp (mItems (mVar 0)) (lcGo (tName 1) mYes (lcOne (mCall F_is_place (mCons (mVar 1) (mCons (mCallS oLen (mLook 0)) mNil)))) [1]) [1]))))
def b_is_program : MS :=
  (mSeq (mIfS (mOr (mNot (mB (mCallS oIsa (mArgs (mCons (mVar 0) (mCons (ret (.ty "tuple")) mNil)))))) (mNot (mB (mChain oLe oLe (ret (.int 1)) (mCallS oLen (mLook 0)) (ret (.int 8)))))) (mRet (ret (.bl false))) mNext)
  b_is_program_1)
def F_is_program : Fn := runFn 2 b_is_program
def b_is_steps : MS :=
  (mRet (mAndV (mCall F_is_integer (mCons (mVar 0) mNil)) (mChain oLe oLe (mVar 1) (mVar 0) (ret (.int 30)))))
def F_is_steps : Fn := runFn 2 b_is_steps
def b_is_watcher_1 : MS :=
  (mRet (mCallS oAll (mArgF (mComp (mItems (mOpN oIx 0 (ret (.int 4)))) (lcGo (tName 1) mYes (lcOne (mOpN oLt 1 (ret (.int 8)))) [1]) [1]))))
def b_is_watcher_2 : MS :=
  (mSeq (mIfS (mOr (mNot (mB (mCall F_is_steps (mCons (mOpN oIx 0 (ret (.int 3))) (mCons (mOpN oIx 0 (ret (.int 2))) mNil))))) (mNot (mB (mCall F_is_rising (mCons (mOpN oIx 0 (ret (.int 4))) mNil))))) (mRet (ret (.bl false))) mNext)
  b_is_watcher_1)
def b_is_watcher_3 : MS :=
  (mSeq (mIfS (mAnd (mB (mOp (oIsN true) (mOpN oIx 0 (ret (.int 1))) (ret .non))) (mNot (mB (mCall F_is_steps (mCons (mOpN oIx 0 (ret (.int 1))) (mCons (mOpN oIx 0 (ret (.int 0))) mNil)))))) (mRet (ret (.bl false))) mNext)
  b_is_watcher_2)
def b_is_watcher : MS :=
  (mSeq (mIfS (mOr (mNot (mB (mCallS oIsa (mArgs (mCons (mVar 0) (mCons (ret (.ty "tuple")) mNil)))))) (mOr (mB (mOp (oEqD true) (mCallS oLen (mLook 0)) (ret (.int 5)))) (mOr (mNot (mB (mCall F_is_steps (mCons (mOpN oIx 0 (ret (.int 0))) (mCons (ret (.int 1)) mNil))))) (mNot (mB (mCall F_is_steps (mCons (mOpN oIx 0 (ret (.int 2))) (mCons (ret (.int 0)) mNil)))))))) (mRet (ret (.bl false))) mNext)
  b_is_watcher_3)
def F_is_watcher : Fn := runFn 2 b_is_watcher
def b_is_end : MS :=
  (mRet (mOp (oEqD false) (mOp oIx (mOpB oIx 0 1) (ret (.int 1))) (mTup mNil)))
def F_is_end : Fn := runFn 2 b_is_end
def b_after_one : MS :=
  (mRet (mCallS oTuple (mArgF (mCallF fSortedSet (mArgF (mComp (mItems (mVar 1)) (lcGo (tName 2) mYes (lcIn (mItems (mOp oIx (mOpB oIx 0 2) (ret (.int 1)))) (lcGo (tName 3) mYes (lcOne (mVar 3)) [3]) [3]) [2, 3]) [2, 3]))))))
def F_after_one : Fn := runFn 4 b_after_one
def b_after_many_1 : MS :=
  (mSet 1 (mCall F_after_one (mCons (mVar 0) (mCons (mVar 1) mNil))))
def b_after_many_2 : MS :=
  (mSeq (mSet 1 (mCall F_after_one (mCons (mVar 0) (mCons (mVar 1) mNil))))
  (mSet 5 (mOpB oAdd 5 1)))
def b_after_many_3 : MS :=
  (mRet (mCallS oTuple (mArgF (mCallF fSortedSet (mLook 5)))))
def b_after_many_4 : MS :=
  (mSeq (mFor (mRng (mCons (mVar 3) mNil)) (tName 4)
  b_after_many_2)
  b_after_many_3)
def b_after_many : MS :=
  (mSeq (mFor (mRng (mCons (mVar 2) mNil)) (tName 4)
  b_after_many_1)
  (mSeq (mSet 5 (mVar 1))
  b_after_many_4))
def F_after_many : Fn := runFn 6 b_after_many
def b_told_from_1 : MS :=
  (mSet 9 (mCall F_after_one (mCons (mVar 0) (mCons (mL (mComp (mItems (mVar 9)) (lcGo (tName 12) (mB (mOpB (oIn true) 12 7)) (lcOne (mVar 12)) [12]) [12])) mNil))))
def b_told_from_2 : MS :=
  (mSeq (mSet 8 (mOpN oAdd 8 (mIf (mB (mOpB oGe 10 5)) (mVar 9) (mCallS oTuple (mLook 11)))))
  b_told_from_1)
def b_told_from_3 : MS :=
  (mSeq (mSetV 11 (mComp (mItems (mVar 9)) (lcGo (tName 12) (mOr (mB (mOpB (oIn false) 12 7)) (mB (mCall F_is_end (mCons (mVar 0) (mCons (mVar 12) mNil))))) (lcOne (mVar 12)) [12]) [12]))
  b_told_from_2)
def b_told_from_4 : MS :=
  (mRet (mCallS oTuple (mArgF (mCallF fSortedSet (mLook 8)))))
def b_told_from_5 : MS :=
  (mSeq (mFor (mRng (mCons (mOpN oAdd 6 (ret (.int 1))) mNil)) (tName 10)
  b_told_from_3)
  b_told_from_4)
def b_told_from_6 : MS :=
  (mSeq (mSet 9 (mTup (mCons (mVar 2) mNil)))
  b_told_from_5)
def b_told_from : MS :=
  (mSeq (mAsg (tTup 5 (tsCons (tName 3) (tsCons (tName 4) (tsCons (tName 5) (tsCons (tName 6) (tsCons (tName 7) tsNil)))))) (mVar 1))
  (mSeq (mSet 8 (mTup mNil))
  b_told_from_6))
def F_told_from : Fn := runFn 13 b_told_from
def b_taken_from_1 : MS :=
  (mRet (mCall F_after_many (mCons (mVar 0) (mCons (mTup (mCons (mVar 2) mNil)) (mCons (mVar 3) (mCons (mIf (mB (mOpN (oIsN false) 4 (ret .non))) (mCallS oLen (mLook 0)) (mOpB oSub 4 3)) mNil))))))
def b_taken_from_2 : MS :=
  (mSeq (mIfS (mB (mOpN (oEqD false) 2 (ret (.int (-1))))) (mRet (mCall F_after_many (mCons (mVar 0) (mCons (mTup (mCons (ret (.int 0)) mNil)) (mCons (ret (.int 0)) (mCons (mCallS oLen (mLook 0)) mNil)))))) mNext)
  b_taken_from_1)
def b_taken_from : MS :=
  (mSeq (mAsg (tTup 2 (tsCons (tName 3) (tsCons (tName 4) tsNil))) (mSlN 1 (ret none) (mPart (ret (.int 2)))))
  b_taken_from_2)
def F_taken_from : Fn := runFn 5 b_taken_from
def b_all_moves_1 : MS :=
  (mRet (mL (mComp (mRng (mCons (ret (.int (-1))) (mCons (mCallS oLen (mLook 0)) mNil))) (lcGo (tName 3) mYes (lcIn (mItems (mCall F_taken_from (mCons (mVar 0) (mCons (mVar 1) (mCons (mVar 3) mNil))))) (lcGo (tName 4) mYes (lcIn (mItems (mOpB oIx 2 4)) (lcGo (tName 5) mYes (lcOne (mTup (mCons (mVar 3) (mCons (mVar 4) (mCons (mVar 5) mNil))))) [5]) [5]) [4, 5]) [4, 5]) [3, 4, 5]) [3, 4, 5])))
def b_all_moves : MS :=
  (mSeq (mSet 2 (mL (mComp (mRng (mCons (mCallS oLen (mLook 0)) mNil)) (lcGo (tName 3) mYes (lcOne (mCall F_told_from (mCons (mVar 0) (mCons (mVar 1) (mCons (mVar 3) mNil))))) [3]) [3])))
  b_all_moves_1)
def F_all_moves : Fn := runFn 6 b_all_moves
def b_Source___init___1 : MS :=
  (mSelf "Source" 0 "all" (mCall F_all_moves (mCons (mVar 1) (mCons (mVar 2) mNil))))
def b_Source___init___2 : MS :=
  (mSeq (mSelf "Source" 0 "watcher" (mVar 2))
  b_Source___init___1)
def b_Source___init___3 : MS :=
  (mSeq (mSelf "Source" 0 "program" (mVar 1))
  b_Source___init___2)
def b_Source___init___4 : MS :=
  (mSeq (mIfS (mOr (mNot (mB (mCall F_is_watcher (mCons (mVar 2) mNil)))) (mNot (mB (mCallS oAll (mArgF (mComp (mItems (mOpN oIx 2 (ret (.int 4)))) (lcGo (tName 3) mYes (lcOne (mOpN oLt 3 (mCallS oLen (mLook 1)))) [3]) [3])))))) (mRaise (ret ⟨"NoWatcher", []⟩)) mNext)
  b_Source___init___3)
def b_Source___init__ : MS :=
  (mSeq (mIfS (mNot (mB (mCall F_is_program (mCons (mVar 1) mNil)))) (mRaise (ret ⟨"NoProgram", []⟩)) mNext)
  b_Source___init___4)
def F_Source : Fn := runInit 4 "Source" b_Source___init__
def b_need_weights_1 : MS :=
  (mIfS (mNot (mB (mCallS oAll (mArgF (mComp (mItems (mVar 1)) (lcGo (tName 2) mYes (lcOne (mAndV (mCall F_is_integer (mCons (mVar 2) mNil)) (mOp oLe (mCallS oAbs (mLook 2)) (ret (.int 1000000))))) [2]) [2]))))) (mRaise (ret ⟨"NoWeights", []⟩)) mNext)
def b_need_weights : MS :=
  (mSeq (mIfS (mOr (mNot (mB (mCallS oIsa (mArgs (mCons (mVar 1) (mCons (ret (.ty "tuple")) mNil)))))) (mB (mOp (oEqD true) (mCallS oLen (mLook 1)) (mCallS oLen (mArgs (mCons (mFld "Source" "program" (mVar 0)) mNil)))))) (mRaise (ret ⟨"NoWeights", []⟩)) mNext)
  b_need_weights_1)
def F_need_weights : Fn := runFn 3 b_need_weights
def b_is_offer_1 : MS :=
  (mRet (mAndV (mOp oLt (mOpN oIx 1 (ret (.int 0))) (mCallS oLen (mArgs (mCons (mFld "Source" "program" (mVar 0)) mNil)))) (mOp (oIn true) (mOpN oIx 1 (ret (.int 0))) (mOp oIx (mFld "Source" "watcher" (mVar 0)) (ret (.int 4))))))
def b_is_offer : MS :=
  (mSeq (mIfS (mOr (mNot (mB (mCallS oIsa (mArgs (mCons (mVar 1) (mCons (ret (.ty "tuple")) mNil)))))) (mOr (mB (mOp (oEqD true) (mCallS oLen (mLook 1)) (ret (.int 2)))) (mOr (mNot (mB (mCall F_is_count (mCons (mOpN oIx 1 (ret (.int 0))) mNil)))) (mNot (mB (mCall F_is_count (mCons (mOpN oIx 1 (ret (.int 1))) mNil))))))) (mRet (ret (.bl false))) mNext)
  b_is_offer_1)
def F_is_offer : Fn := runFn 2 b_is_offer
def b_need_offers_1 : MS :=
  (mIfS (mB (mOp oGt (mCallS oLen (mLook 1)) (ret (.int 6)))) (mRaise (bnd (ret (.int 6)) (mkI1 "TooMany" "limit"))) mNext)
def b_need_offers_2 : MS :=
  (mSeq (mIfS (mB (mOp (oEqD true) (mCallS oLenD (mArgs (mCons (mDComp (mItems (mVar 1)) (lcGo (tTup 2 (tsCons (tName 3) (tsCons (tName 4) tsNil))) mYes (dcOne (mVar 3) (ret (.bl true))) [3, 4]) [3, 4]) mNil))) (mCallS oLen (mLook 1)))) (mRaise (ret ⟨"NoChange", []⟩)) mNext)
  b_need_offers_1)
def b_need_offers : MS :=
  (mSeq (mIfS (mOr (mNot (mB (mCallS oIsa (mArgs (mCons (mVar 1) (mCons (ret (.ty "list")) mNil)))))) (mNot (mB (mCallS oAll (mArgF (mComp (mItems (mVar 1)) (lcGo (tName 2) mYes (lcOne (mCall F_is_offer (mCons (mVar 0) (mCons (mVar 2) mNil)))) [2]) [2])))))) (mRaise (ret ⟨"NoChange", []⟩)) mNext)
  b_need_offers_2)
def F_need_offers : Fn := runFn 5 b_need_offers
def b__law_mixed_1 : MS :=
  (mSet 3 (mOpE oMod (mCallS oInt (mArgs (mCons (mOpE oAdd (mOp oAdd (mOp oAdd (mOpB oMul 3 3) (mOpE oMul (ret (.int 29)) 3)) (mOpE oMul (ret (.int 4001)) 4)) 1) mNil))) 2))
def b__law_mixed_2 : MS :=
  (mRet (mOp oAdd (mOpB oMul 3 2) (mOpE oMod (mCallS oInt (mArgs (mCons (mOpE oAdd (mOpN oMul 3 (ret (.int 48271))) 1) mNil))) 2)))
def b__law_mixed_3 : MS :=
  (mSeq (mFor (mRng (mCons (ret (.int 4)) mNil)) (tName 4)
  b__law_mixed_1)
  b__law_mixed_2)
def b__law_mixed_4 : MS :=
  (mSeq (mSet 3 (mOpE oMod (mCallS oInt (mArgs (mCons (mOp oAdd (mOp oAdd (mOpN oMul 0 (ret (.int 1181783497276652981))) (mOpN oMul 1 (ret (.int 2685821657736338717)))) (ret (.int 41))) mNil))) 2))
  b__law_mixed_3)
def b__law_mixed : MS :=
  (mSeq (mSet 2 (ret (.int 2305843009213693951)))
  b__law_mixed_4)
def F__law_mixed : Fn := runFn 5 b__law_mixed
def b__law_deck_of_1 : MS :=
  (mAsg (tSub 2 (mOpN oMod 3 (ret (.int 16)))) (mOp oAdd (mOpN oIx 2 (mOpN oMod 3 (ret (.int 16)))) (mCallS oAbs (mLook 1))))
def b__law_deck_of_2 : MS :=
  (mRet (mAlloc (mLst (mCons (mVar 2) (mCons (ret (.int 0)) (mCons (ret (.int 0)) (mCons (ret (.int 0)) mNil)))))))
def b__law_deck_of_3 : MS :=
  (mSeq (mFor (mEnum (mCons (mSlN 0 (mPart (ret (.int 16))) (mPart (ret (.int 63)))) mNil)) (tTup 2 (tsCons (tName 3) (tsCons (tName 1) tsNil)))
  b__law_deck_of_1)
  b__law_deck_of_2)
def b__law_deck_of : MS :=
  (mSeq (mSetO 2 (mComp (mItems (mSlN 0 (ret none) (mPart (ret (.int 16))))) (lcGo (tName 1) mYes (lcOne (mCallS oAbs (mLook 1))) [1]) [1]))
  b__law_deck_of_3)
def F__law_deck_of : Fn := runFn 4 b__law_deck_of
def b__law_below_1 : MS :=
  (mSeq (mAsg (tSub 0 (ret (.int 2))) (mVar 4))
  (mAsg (tSub 0 (ret (.int 3))) (mVar 4)))
def b__law_below_2 : MS :=
  (mSeq (mAsg (tSub 0 (ret (.int 1))) (mOpN oAdd 3 (ret (.int 1))))
  b__law_below_1)
def b__law_below_3 : MS :=
  (mSeq (mIfS (mOr (mB (mOpN oGe 3 (mCallS oLen (mLook 2)))) (mB (mOpN oLt 4 (mOp oPow (ret (.int 10)) (ret (.int 16)))))) (mSet 4 (mCall F__law_mixed (mCons (mOp oMod (mCallS oInt (mLook 4)) (ret (.int 998244353))) (mCons (mVar 3) mNil)))) mNext)
  b__law_below_2)
def b__law_below_4 : MS :=
  (mSeq (mSet 4 (mIf (mB (mOpN (oEqD true) 2 (mL (mLst mNil)))) (mOpN oIx 2 (mOp oMod (mCallS oInt (mLook 3)) (mCallS oLen (mLook 2)))) (ret (.int 0))))
  b__law_below_3)
def b__law_below_5 : MS :=
  (mSeq (mAsg (tSub 0 (ret (.int 3))) (mOpE oFdiv (mOpN oIx 0 (ret (.int 3))) 1))
  (mRet (mVar 5)))
def b__law_below_6 : MS :=
  (mSeq (mAsg (tSub 0 (ret (.int 2))) (mOpE oFdiv (mOpN oIx 0 (ret (.int 2))) 1))
  b__law_below_5)
def b__law_below_7 : MS :=
  (mSeq (mSet 5 (mOpE oMod (mCallS oInt (mArgs (mCons (mOpN oIx 0 (ret (.int 2))) mNil))) 1))
  b__law_below_6)
def b__law_below : MS :=
  (mSeq (mIfS (mB (mOpE oLt (mOpN oIx 0 (ret (.int 3))) 1)) (mSeq (mPar 2 3 (mCons (mOpN oIx 0 (ret (.int 0))) (mCons (mOpN oIx 0 (ret (.int 1))) mNil)))
  b__law_below_4) mNext)
  b__law_below_7)
def F__law_below : Fn := runFn 6 b__law_below
def b__law_pick : MS :=
  (mRet (mOpN oIx 1 (mCall F__law_below (mCons (mVar 0) (mCons (mCallS oLen (mLook 1)) mNil)))))
def F__law_pick : Fn := runFn 2 b__law_pick
def b__law_some_program_1 : MS :=
  (mExpr (mMut fAppend 4 (mCons (mTup (mCons (mCall F__law_pick (mCons (mVar 0) (mCons (mVar 3) mNil))) (mCons (mCallS oTuple (mArgF (mCallF fSortedSet (mLook 7)))) mNil))) mNil)))
def b__law_some_program_2 : MS :=
  (mSeq (mIfS (mAnd (mB (mOpN (oEqD false) 5 (ret (.int 1)))) (mB (mOpN (oEqD false) 6 (mOpN oSub 2 (ret (.int 1)))))) (mSetO 7 (mLst mNil)) mNext)
  b__law_some_program_1)
def b__law_some_program_3 : MS :=
  (mSeq (mIfS (mB (mOpN oGt 5 (ret (.int 0)))) (mExpr (mMut fAppend 7 (mCons (mOpE oMod (mOpN oAdd 6 (ret (.int 1))) 2) mNil))) mNext)
  b__law_some_program_2)
def b__law_some_program_4 : MS :=
  (mSeq (mSetO 7 (mComp (mRng (mCons (mVar 2) mNil)) (lcGo (tName 8) (mB (mOp (oEqD false) (mCall F__law_below (mCons (mVar 0) (mCons (ret (.int 3)) mNil))) (ret (.int 0)))) (lcOne (mVar 8)) [8]) [8]))
  b__law_some_program_3)
def b__law_some_program_5 : MS :=
  (mSeq (mFor (mRng (mCons (mVar 2) mNil)) (tName 6)
  b__law_some_program_4)
  (mRet (mCallS oTuple (mLook 4))))
def b__law_some_program_6 : MS :=
  (mSeq (mParL 4 5 (mLst mNil) (mCall F__law_below (mCons (mVar 0) (mCons (ret (.int 4)) mNil))))
  b__law_some_program_5)
def b__law_some_program : MS :=
  (mSeq (mPar 2 3 (mCons (mOp oAdd (ret (.int 1)) (mCall F__law_below (mCons (mVar 0) (mCons (mVar 1) mNil)))) (mCons (mSl (mL (mLst (mCons (ret (.str "a")) (mCons (ret (.str "b")) (mCons (ret (.str "row12")) (mCons (ret (.str "z9z9z9z9")) mNil)))))) (ret none) (mPart (mOp oAdd (ret (.int 1)) (mCall F__law_below (mCons (mVar 0) (mCons (ret (.int 4)) mNil)))))) mNil)))
  b__law_some_program_6)
def F__law_some_program : Fn := runFn 9 b__law_some_program
def b__law_some_watcher_1 : MS :=
  (mRet (mTup (mCons (mVar 2) (mCons (mCall F__law_pick (mCons (mVar 0) (mCons (mVar 5) mNil))) (mCons (mVar 3) (mCons (mVar 4) (mCons (mCallS oTuple (mLook 6)) mNil)))))))
def b__law_some_watcher_2 : MS :=
  (mSeq (mSetV 6 (mComp (mRng (mCons (mVar 1) mNil)) (lcGo (tName 7) (mB (mOp (oEqD false) (mCall F__law_below (mCons (mVar 0) (mCons (ret (.int 5)) mNil))) (ret (.int 0)))) (lcOne (mVar 7)) [7]) [7]))
  b__law_some_watcher_1)
def b__law_some_watcher_3 : MS :=
  (mSeq (mSet 5 (mL (mLst (mCons (ret .non) (mCons (mVar 2) (mCons (mVar 2) (mCons (mCallS oMin2 (mArgs (mCons (ret (.int 30)) (mCons (mOpN oAdd 2 (ret (.int 1))) mNil)))) (mCons (mCallS oMin2 (mArgs (mCons (ret (.int 30)) (mCons (mOpN oAdd 2 (ret (.int 2))) mNil)))) mNil))))))))
  b__law_some_watcher_2)
def b__law_some_watcher_4 : MS :=
  (mSeq (mSet 4 (mOpN oAdd 3 (mCall F__law_pick (mCons (mVar 0) (mCons (mL (mLst (mCons (ret (.int 0)) (mCons (ret (.int 0)) (mCons (ret (.int 1)) (mCons (ret (.int 1)) (mCons (ret (.int 2)) (mCons (ret (.int 3)) mNil)))))))) mNil)))))
  b__law_some_watcher_3)
def b__law_some_watcher : MS :=
  (mSeq (mPar 2 3 (mCons (mCall F__law_pick (mCons (mVar 0) (mCons (mL (mLst (mCons (ret (.int 1)) (mCons (ret (.int 1)) (mCons (ret (.int 1)) (mCons (ret (.int 2)) (mCons (ret (.int 3)) (mCons (mOp oAdd (ret (.int 1)) (mCall F__law_below (mCons (mVar 0) (mCons (ret (.int 30)) mNil)))) mNil)))))))) mNil))) (mCons (mCall F__law_pick (mCons (mVar 0) (mCons (mL (mLst (mCons (ret (.int 0)) (mCons (ret (.int 0)) (mCons (ret (.int 1)) (mCons (ret (.int 1)) (mCons (ret (.int 2)) (mCons (ret (.int 7)) mNil)))))))) mNil))) mNil)))
  b__law_some_watcher_4)
def F__law_some_watcher : Fn := runFn 8 b__law_some_watcher
def b__law_some_weights_1 : MS :=
  (mRet (mCallS oTuple (mArgF (mComp (mRng (mCons (mVar 1) mNil)) (lcGo (tName 4) mYes (lcOne (mCallS oInt (mArgs (mCons (mOpB (oEqD false) 4 3) mNil)))) [4]) [4]))))
def b__law_some_weights_2 : MS :=
  (mRet (mCallS oTuple (mArgF (mComp (mRng (mCons (mVar 1) mNil)) (lcGo (tName 4) mYes (lcOne (mOp oSub (mCall F__law_below (mCons (mVar 0) (mCons (ret (.int 7)) mNil))) (ret (.int 2)))) [4]) [4]))))
def b__law_some_weights_3 : MS :=
  (mSeq (mIfS (mB (mOpN (oEqD false) 2 (ret (.int 1)))) (mRet (mCallS oTuple (mArgF (mComp (mRng (mCons (mVar 1) mNil)) (lcGo (tName 4) mYes (lcOne (mOp oSub (mCall F__law_below (mCons (mVar 0) (mCons (mOp oAdd (mOp oMul (ret (.int 2)) (mOp oPow (ret (.int 10)) (ret (.int 6)))) (ret (.int 1))) mNil))) (mOp oPow (ret (.int 10)) (ret (.int 6))))) [4]) [4])))) mNext)
  b__law_some_weights_2)
def b__law_some_weights_4 : MS :=
  (mSeq (mIfS (mB (mOpN (oEqD false) 2 (ret (.int 0)))) (mSeq (mSet 3 (mCall F__law_below (mCons (mVar 0) (mCons (mVar 1) mNil))))
  b__law_some_weights_1) mNext)
  b__law_some_weights_3)
def b__law_some_weights : MS :=
  (mSeq (mSet 2 (mCall F__law_below (mCons (mVar 0) (mCons (ret (.int 4)) mNil))))
  b__law_some_weights_4)
def F__law_some_weights : Fn := runFn 5 b__law_some_weights
def b__law_some_offers_1 : MS :=
  (mExpr (mMut fInsert 4 (mCons (mCall F__law_below (mCons (mVar 0) (mCons (mOp oAdd (mCallS oLen (mLook 4)) (ret (.int 1))) mNil))) (mCons (mTup (mCons (mVar 5) (mCons (mVar 6) mNil))) mNil))))
def b__law_some_offers_2 : MS :=
  (mIfS (mAnd (mB (mOpN (oIn true) 5 (mOpN oIx 2 (ret (.int 4))))) (mAnd (mB (mOpE oLt (mCallS oLen (mLook 4)) 3)) (mB (mOp oGt (mCall F__law_below (mCons (mVar 0) (mCons (ret (.int 3)) mNil))) (ret (.int 0)))))) (mSeq (mSet 6 (mCall F__law_pick (mCons (mVar 0) (mCons (mL (mLst (mCons (ret (.int 0)) (mCons (ret (.int 1)) (mCons (ret (.int 1)) (mCons (ret (.int 2)) (mCons (ret (.int 3)) (mCons (mCall F__law_below (mCons (mVar 0) (mCons (mOp oPow (ret (.int 10)) (ret (.int 11))) mNil))) mNil)))))))) mNil))))
  b__law_some_offers_1) mNext)
def b__law_some_offers_3 : MS :=
  (mSeq (mFor (mRng (mCons (mCallS oLen (mLook 1)) mNil)) (tName 5)
  b__law_some_offers_2)
  (mRet (mVar 4)))
def b__law_some_offers : MS :=
  (mSeq (mSetO 4 (mLst mNil))
  b__law_some_offers_3)
def F__law_some_offers : Fn := runFn 7 b__law_some_offers
def b__law_odd_weights_1 : MS :=
  (mRet (mOp oAdd (mOp oAdd (mSlN 1 (ret none) (mPart (mVar 2))) (mTup (mCons (mVar 3) mNil))) (mSlN 1 (mPart (mOpN oAdd 2 (ret (.int 1)))) (ret none))))
def b__law_odd_weights_2 : MS :=
  (mSeq (mIfS (mB (mOp (oEqD false) (mCall F__law_below (mCons (mVar 0) (mCons (ret (.int 2)) mNil))) (ret (.int 0)))) (mRet (mCall F__law_pick (mCons (mVar 0) (mCons (mVar 4) mNil)))) mNext)
  b__law_odd_weights_1)
def b__law_odd_weights_3 : MS :=
  (mSeq (mSet 4 (mL (mLst (mCons (mL (mCallF fList (mLook 1))) (mCons (mOpN oAdd 1 (mTup (mCons (ret (.int 0)) mNil))) (mCons (mSlN 1 (mPart (ret (.int 1))) (ret none)) (mCons (ret .non) (mCons (ret (.dicK [])) (mCons (ret (.str "")) (mCons (ret (.int 0)) mNil))))))))))
  b__law_odd_weights_2)
def b__law_odd_weights_4 : MS :=
  (mSeq (mSet 3 (mCall F__law_pick (mCons (mVar 0) (mCons (mL (mLst (mCons (ret .non) (mCons (ret (.bl true)) (mCons (ret (.str "1")) (mCons (mOp oAdd (mOp oPow (ret (.int 10)) (ret (.int 6))) (ret (.int 1))) (mCons (mOp oSub (mOp oSub (ret (.int 0)) (mOp oPow (ret (.int 10)) (ret (.int 6)))) (ret (.int 1))) (mCons (mTup (mCons (ret (.int 1)) mNil)) (mCons (mL (mLst (mCons (ret (.int 1)) mNil))) mNil))))))))) mNil))))
  b__law_odd_weights_3)
def b__law_odd_weights : MS :=
  (mSeq (mSet 2 (mCall F__law_below (mCons (mVar 0) (mCons (mCallS oLen (mLook 1)) mNil))))
  b__law_odd_weights_4)
def F__law_odd_weights : Fn := runFn 5 b__law_odd_weights
end LB
set_option Elab.async false
set_option linter.all false
set_option maxRecDepth 100000
set_option maxHeartbeats 1000000
namespace K55
open PySem DM LB
def b_marked : MS :=
  (mSeq (mExpr (mCall F_need_offers (mCons (mVar 0) (mCons (mVar 1) mNil))))
  (fun _ => .bad))
def F_marked : Fn := runFn 3 b_marked
def b_spread_of : MS :=
  (mSeq (mExpr (mCall F_need_weights (mCons (mVar 0) (mCons (mVar 1) mNil))))
  (fun _ => .bad))
def F_spread_of : Fn := runFn 3 b_spread_of
def b_settled : MS :=
  (mSeq (mSet 3 (mCall F_spread_of (mCons (mVar 0) (mCons (mVar 1) mNil))))
  (fun _ => .bad))
def F_settled : Fn := runFn 4 b_settled
def b_breach : MS :=
  (mSeq (mSet 3 (mCall F_spread_of (mCons (mVar 0) (mCons (mVar 1) mNil))))
  (fun _ => .bad))
def F_breach : Fn := runFn 4 b_breach
def b_shows_breach : MS :=
  (mSeq (mExpr (mCall F_need_weights (mCons (mVar 0) (mCons (mVar 1) mNil))))
  (fun _ => .bad))
def F_shows_breach : Fn := runFn 4 b_shows_breach
def b_cheapest_1 : MS :=
  (mSeq (mExpr (mCall F_need_offers (mCons (mVar 0) (mCons (mVar 3) mNil))))
  (fun _ => .bad))
def b_cheapest : MS :=
  (mSeq (mExpr (mCall F_need_weights (mCons (mVar 0) (mCons (mVar 1) mNil))))
  b_cheapest_1)
def F_cheapest : Fn := runFn 8 b_cheapest
def b_shows_cheapest_1 : MS :=
  (mSeq (mExpr (mCall F_need_offers (mCons (mVar 0) (mCons (mVar 3) mNil))))
  (fun _ => .bad))
def b_shows_cheapest : MS :=
  (mSeq (mExpr (mCall F_need_weights (mCons (mVar 0) (mCons (mVar 1) mNil))))
  b_shows_cheapest_1)
def F_shows_cheapest : Fn := runFn 12 b_shows_cheapest
def b_greatest_high : MS :=
  (mSeq (mExpr (mCall F_need_weights (mCons (mVar 0) (mCons (mVar 1) mNil))))
  (fun _ => .bad))
def F_greatest_high : Fn := runFn 5 b_greatest_high
def b__law_asked_1 : MS :=
  (mRet (mCall F_greatest_high (mCons (mVar 1) (mCons (mVar 2) (mCons (ret (.int 1)) mNil)))))
def b__law_asked_2 : MS :=
  (mSeq (mIfS (mB (mOpN (oEqD false) 0 (ret (.int 4)))) (mRet (mCall F_shows_breach (mCons (mVar 1) (mCons (mVar 2) (mCons (ret (.int 1)) (mCons (ret .non) mNil)))))) mNext)
  b__law_asked_1)
def b__law_asked_3 : MS :=
  (mSeq (mIfS (mB (mOpN (oEqD false) 0 (ret (.int 3)))) (mRet (mCall F_breach (mCons (mVar 1) (mCons (mVar 2) (mCons (ret (.int 1)) mNil))))) mNext)
  b__law_asked_2)
def b__law_asked_4 : MS :=
  (mSeq (mIfS (mB (mOpN (oEqD false) 0 (ret (.int 2)))) (mRet (mCall F_settled (mCons (mVar 1) (mCons (mVar 2) (mCons (ret (.int 1)) mNil))))) mNext)
  b__law_asked_3)
def b__law_asked_5 : MS :=
  (mSeq (mIfS (mB (mOpN (oEqD false) 0 (ret (.int 1)))) (mRet (mCall F_shows_cheapest (mCons (mVar 1) (mCons (mVar 2) (mCons (ret (.int 1)) (mCons (mVar 3) (mCons (ret .non) mNil))))))) mNext)
  b__law_asked_4)
def b__law_asked : MS :=
  (mSeq (mIfS (mB (mOpN (oEqD false) 0 (ret (.int 0)))) (mRet (mCall F_cheapest (mCons (mVar 1) (mCons (mVar 2) (mCons (ret (.int 1)) (mCons (mVar 3) mNil)))))) mNext)
  b__law_asked_5)
def F__law_asked : Fn := runFn 4 b__law_asked
def b__law_refusal_1 : MS :=
  (mSeq (mTry exmT (mIfS (mB (mOpN oLt 0 (ret (.int 6)))) (mExpr (mCall F__law_asked (mCons (mVar 0) (mCons (mVar 1) (mCons (mVar 2) (mCons (mVar 3) mNil)))))) (mExpr (mCall F_marked (mCons (mVar 1) (mCons (mVar 3) (mCons (mOp oIx (mL (mLst (mCons (mTup mNil) (mCons (ret .non) (mCons (mL (mLst (mCons (ret (.int 0)) mNil))) (mCons (mTup (mCons (ret (.int 9)) mNil)) mNil)))))) (mOpN oSub 0 (ret (.int 6)))) mNil))))))
  [⟨"NoWeights", none, (mSet 4 (ret (.str "weights")))⟩, ⟨"NoChange", none, (mSet 4 (ret (.str "change")))⟩, ⟨"TooMany", some 5, (mSet 4 (mTup (mCons (ret (.str "many")) (mCons (mXf "TooMany" 5 "limit") mNil))))⟩, ⟨"Mismatch", none, (mSet 4 (ret (.str "mismatch")))⟩])
  (mRet (mVar 4)))
def b__law_refusal : MS :=
  (mSeq (mSet 4 (ret .non))
  b__law_refusal_1)
def F__law_refusal : Fn := runFn 6 b__law_refusal
def b__law_odd_offers_1 : MS :=
  (mRet (mL (mLst (mCons (mVar 8) (mCons (ret (.str "change")) mNil)))))
def b__law_odd_offers_2 : MS :=
  (mSeq (mExpr (mMut fInsert 8 (mCons (mCall F__law_below (mCons (mVar 0) (mCons (mOp oAdd (mCallS oLen (mLook 8)) (ret (.int 1))) mNil))) (mCons (mTup (mCons (mVar 7) (mCons (mCall F__law_below (mCons (mVar 0) (mCons (ret (.int 3)) mNil))) mNil))) mNil))))
  b__law_odd_offers_1)
def b__law_odd_offers_3 : MS :=
  (mSeq (mSetO 8 (mComp (mItems (mVar 5)) (lcGo (tName 10) mYes (lcOne (mTup (mCons (mVar 10) (mCons (ret (.int 1)) mNil)))) [10]) [10]))
  b__law_odd_offers_2)
def b__law_odd_offers_4 : MS :=
  (mRet (mL (mLst (mCons (mOp oAdd (mOp oAdd (mSlN 3 (ret none) (mPart (mVar 4))) (mL (mLst (mCons (mVar 9) mNil)))) (mSlN 3 (mPart (mVar 4)) (ret none))) (mCons (ret (.str "change")) mNil)))))
def b__law_odd_offers_5 : MS :=
  (mSeq (mIfS (mB (mOp (oEqD false) (mCall F__law_below (mCons (mVar 0) (mCons (ret (.int 3)) mNil))) (ret (.int 0)))) (mSet 9 (mCall F__law_pick (mCons (mVar 0) (mCons (mOp oAdd (mL (mLst (mCons (mTup (mCons (ret (.int 0)) (mCons (ret .non) mNil))) (mCons (mTup (mCons (ret (.int 0)) (mCons (ret (.bl true)) mNil))) (mCons (mTup (mCons (ret (.int 0)) (mCons (ret (.str "1")) mNil))) (mCons (mTup (mCons (ret (.int 0)) (mCons (mOp oSub (ret (.int 0)) (ret (.int 1))) mNil))) mNil)))))) (mL (mComp (mItems (mOpN oIx 2 (ret (.int 4)))) (lcGo (tName 11) mYes (lcOne (mTup (mCons (mVar 11) (mCons (ret (.int 1)) mNil)))) [11]) [11]))) mNil)))) mNext)
  b__law_odd_offers_4)
def b__law_odd_offers_6 : MS :=
  (mSeq (mSet 9 (mCall F__law_pick (mCons (mVar 0) (mCons (mL (mLst (mCons (ret .non) (mCons (mL (mLst (mCons (ret (.int 0)) (mCons (ret (.int 1)) mNil)))) (mCons (mTup (mCons (ret (.int 0)) mNil)) (mCons (mTup (mCons (ret (.int 0)) (mCons (ret (.int 1)) (mCons (ret (.int 1)) mNil)))) (mCons (mTup (mCons (mCallS oLen (mLook 1)) (mCons (ret (.int 1)) mNil))) (mCons (mTup (mCons (mOp oSub (ret (.int 0)) (ret (.int 1))) (mCons (ret (.int 1)) mNil))) (mCons (mTup (mCons (ret (.bl true)) (mCons (ret (.int 1)) mNil))) (mCons (mTup (mCons (ret (.str "0")) (mCons (ret (.int 1)) mNil))) mNil)))))))))) mNil))))
  b__law_odd_offers_5)
def b__law_odd_offers_7 : MS :=
  (mSeq (mIfS (mAnd (mB (mOpN (oEqD false) 6 (ret (.int 2)))) (mB (mOpN (oEqD true) 5 (mL (mLst mNil))))) (mSeq (mSet 7 (mCall F__law_pick (mCons (mVar 0) (mCons (mVar 5) mNil))))
  b__law_odd_offers_3) mNext)
  b__law_odd_offers_6)
def b__law_odd_offers_8 : MS :=
  (mSeq (mIfS (mAnd (mB (mOpN (oEqD false) 6 (ret (.int 1)))) (mB (mOp oGt (mCallS oLen (mLook 5)) (ret (.int 6))))) (mRet (mL (mLst (mCons (mL (mComp (mItems (mVar 5)) (lcGo (tName 7) mYes (lcOne (mTup (mCons (mVar 7) (mCons (ret (.int 1)) mNil)))) [7]) [7])) (mCons (mTup (mCons (ret (.str "many")) (mCons (ret (.int 6)) mNil))) mNil))))) mNext)
  b__law_odd_offers_7)
def b__law_odd_offers_9 : MS :=
  (mSeq (mIfS (mB (mOpN (oEqD false) 6 (ret (.int 0)))) (mRet (mL (mLst (mCons (mCall F__law_pick (mCons (mVar 0) (mCons (mL (mLst (mCons (mCallS oTuple (mLook 3)) (mCons (ret .non) (mCons (ret (.dicK [])) (mCons (ret (.str "")) (mCons (ret (.int 0)) mNil))))))) mNil))) (mCons (ret (.str "change")) mNil))))) mNext)
  b__law_odd_offers_8)
def b__law_odd_offers_10 : MS :=
  (mSeq (mSet 6 (mCall F__law_below (mCons (mVar 0) (mCons (ret (.int 5)) mNil))))
  b__law_odd_offers_9)
def b__law_odd_offers : MS :=
  (mSeq (mPar 4 5 (mCons (mCall F__law_below (mCons (mVar 0) (mCons (mOp oAdd (mCallS oLen (mLook 3)) (ret (.int 1))) mNil))) (mCons (mL (mComp (mRng (mCons (mCallS oLen (mLook 1)) mNil)) (lcGo (tName 10) (mB (mOpN (oIn true) 10 (mOpN oIx 2 (ret (.int 4))))) (lcOne (mVar 10)) [10]) [10])) mNil)))
  b__law_odd_offers_10)
def F__law_odd_offers : Fn := runFn 12 b__law_odd_offers
def b_law_1 : MS :=
  (mIfS (mOr (mB (mOpE (oEqD true) (mCallS oRepr (mArgs (mCons (mTup (mCons (mVar 6) (mCons (mVar 7) mNil))) mNil))) 11)) (mB (mOp (oEqD true) (mCallS oRepr (mArgs (mCons (mFld "Source" "watcher" (mVar 5)) mNil))) (mCallS oRepr (mLook 4))))) (mRet (ret (.bl false))) mNext)
def b_law_2 : MS :=
  (mSeq (mIfS (mAnd (mB (mOpN (oIsN true) 9 (ret .non))) (mB (mOpE (oEqD true) (mCall F__law_refusal (mCons (mVar 8) (mCons (mVar 5) (mCons (mVar 6) (mCons (mVar 7) mNil))))) 9))) (mRet (ret (.bl false))) mNext)
  b_law_1)
def b_law_3 : MS :=
  (mSeq (mSet 11 (mCallS oRepr (mArgs (mCons (mTup (mCons (mVar 6) (mCons (mVar 7) mNil))) mNil))))
  b_law_2)
def b_law_4 : MS :=
  (mSeq (mIfS (mAnd (mB (mOp (oEqD false) (mOp oMod (mCallS oInt (mLook 10)) (ret (.int 2))) (ret (.int 1)))) (mB (mOpN oLt 8 (ret (.int 6))))) (mPar 6 9 (mCons (mCall F__law_odd_weights (mCons (mVar 1) (mCons (mVar 6) mNil))) (mCons (ret (.str "weights")) mNil))) mNext)
  b_law_3)
def b_law_5 : MS :=
  (mSeq (mIfS (mAnd (mB (mOpN oGt 10 (ret (.int 1)))) (mB (mOpN (oIn true) 8 (mL (mLst (mCons (ret (.int 2)) (mCons (ret (.int 3)) (mCons (ret (.int 4)) (mCons (ret (.int 5)) mNil))))))))) (mAsg (tTup 2 (tsCons (tName 7) (tsCons (tName 9) tsNil))) (mCall F__law_odd_offers (mCons (mVar 1) (mCons (mVar 3) (mCons (mVar 4) (mCons (mVar 7) mNil)))))) mNext)
  b_law_4)
def b_law_6 : MS :=
  (mSeq (mPar 9 10 (mCons (ret .non) (mCons (mCall F__law_pick (mCons (mVar 1) (mCons (mL (mLst (mCons (ret (.int 1)) (mCons (ret (.int 2)) (mCons (ret (.int 3)) mNil))))) mNil))) mNil)))
  b_law_5)
def b_law_7 : MS :=
  (mSeq (mPar 7 8 (mCons (mCall F__law_some_offers (mCons (mVar 1) (mCons (mVar 3) (mCons (mVar 4) (mCons (ret (.int 6)) mNil))))) (mCons (mCall F__law_below (mCons (mVar 1) (mCons (ret (.int 10)) mNil))) mNil)))
  b_law_6)
def b_law_8 : MS :=
  (mSeq (mPar 5 6 (mCons (mCall F_Source (mCons (mVar 3) (mCons (mVar 4) mNil))) (mCons (mCall F__law_some_weights (mCons (mVar 1) (mCons (mCallS oLen (mLook 3)) mNil))) mNil)))
  b_law_7)
def b_law_9 : MS :=
  (mSeq (mSet 4 (mCall F__law_some_watcher (mCons (mVar 1) (mCons (mCallS oLen (mLook 3)) mNil))))
  b_law_8)
def b_law_10 : MS :=
  (mSeq (mSet 3 (mCall F__law_some_program (mCons (mVar 1) (mCons (ret (.int 8)) mNil))))
  b_law_9)
def b_law_11 : MS :=
  (mSeq (mFor (mRng (mCons (ret (.int 12)) mNil)) (tName 2)
  b_law_10)
  (mRet (ret (.bl true))))
def b_law : MS :=
  (mSeq (mSet 1 (mCall F__law_deck_of (mCons (mVar 0) mNil)))
  b_law_11)
def F_law : Fn := runFn 12 b_law
end K55
set_option Elab.async false
set_option linter.all false
set_option maxRecDepth 100000
set_option maxHeartbeats 1000000
namespace K55
open PySem PySem.Spec PyProof.Rows L2 DM LB
structure Glob (K : PySem.W.Frag) (mg : Str → Option Value) : Prop where
  i_BEGIN : ∃ t, mg "BEGIN" = some (.int (-1) t)
  s_FIGURES : ∃ t, mg "FIGURES" = some (.str "0123456789" t)
  s_LETTERS : ∃ t, mg "LETTERS" = some (.str "abcdefghijklmnopqrstuvwxyz" t)
  i_MAX_NAME : ∃ t, mg "MAX_NAME" = some (.int 8 t)
  i_MAX_OFFERS : ∃ t, mg "MAX_OFFERS" = some (.int 6 t)
  i_MAX_PLACES : ∃ t, mg "MAX_PLACES" = some (.int 8 t)
  i_MAX_STEPS : ∃ t, mg "MAX_STEPS" = some (.int 30 t)
  i_MAX_WEIGHT : ∃ t, mg "MAX_WEIGHT" = some (.int 1000000 t)
  g_abs : mg "abs" = none
  g_all : mg "all" = none
  g_bool : mg "bool" = none
  c_Source : ClsF K mg "Source" (He.ga K "Source")
  g_enumerate : mg "enumerate" = none
  g_int : mg "int" = none
  g_isinstance : mg "isinstance" = none
  g_len : mg "len" = none
  g_list : mg "list" = none
  g_min : mg "min" = none
  n_Source_all : NoAttr K (He.ga K "Source") "all"
  n_Source_program : NoAttr K (He.ga K "Source") "program"
  n_Source_watcher : NoAttr K (He.ga K "Source") "watcher"
  g_range : mg "range" = none
  g_repr : mg "repr" = none
  g_set : mg "set" = none
  g_sorted : mg "sorted" = none
  g_str : mg "str" = none
  g_tuple : mg "tuple" = none
  g_zip : mg "zip" = none
  m_Mismatch : mg "Mismatch" = some (.ref (He.ga K "Mismatch"))
  m_NoChange : mg "NoChange" = some (.ref (He.ga K "NoChange"))
  m_NoProgram : mg "NoProgram" = some (.ref (He.ga K "NoProgram"))
  m_NoWatcher : mg "NoWatcher" = some (.ref (He.ga K "NoWatcher"))
  m_NoWeights : mg "NoWeights" = some (.ref (He.ga K "NoWeights"))
  m_Source : mg "Source" = some (.ref (He.ga K "Source"))
  m_TooMany : mg "TooMany" = some (.ref (He.ga K "TooMany"))
  e_NoChange : ExcR K mg "NoChange"
  e_NoProgram : ExcR K mg "NoProgram"
  e_NoWatcher : ExcR K mg "NoWatcher"
  e_NoWeights : ExcR K mg "NoWeights"
  x_all : ∀ p ∈ exmTab, mg p.1.1 = some (.ref (He.ga K p.1.1)) ∧ mg p.1.2 = some (.ref (He.ga K p.1.2)) ∧ PySem.W.exmOne K (.ref (He.ga K p.1.1)) (.ref (He.ga K p.1.2)) = some p.2
  o_TooMany : OexC K (He.ga K "TooMany")
  q_TooMany : PySem.W.findIn K (.ref (He.ga K "TooMany")) "__init__" = some (some (.ref (He.fAd K ("TooMany", some "__init__"))))
  t_TooMany : PySem.W.typeIn K (.ref (He.fAd K ("TooMany", some "__init__"))) = some (.type "function")
  h_TooMany : ∃ fd, FnP K "__init__" "TooMany.__init__" (mtop 2 0) (He.fAd K ("TooMany", some "__init__")) fd
  xf_TooMany : XfC K (He.ga K "TooMany")
  xn_TooMany : PySem.W.findIn K (.ref (He.ga K "TooMany")) "limit" = some none
  b_BlameError : IniB K mg "BlameError"
  d_is_integer : ∃ fd, FnP K "is_integer" "is_integer" (top 12) (He.fAd K ("is_integer", none)) fd
  f_is_integer : mg "is_integer" = some (.ref (He.fAd K ("is_integer", none)))
  d_is_count : ∃ fd, FnP K "is_count" "is_count" (top 13) (He.fAd K ("is_count", none)) fd
  f_is_count : mg "is_count" = some (.ref (He.fAd K ("is_count", none)))
  d_is_name : ∃ fd, FnP K "is_name" "is_name" (top 14) (He.fAd K ("is_name", none)) fd
  f_is_name : mg "is_name" = some (.ref (He.fAd K ("is_name", none)))
  d_is_rising : ∃ fd, FnP K "is_rising" "is_rising" (top 15) (He.fAd K ("is_rising", none)) fd
  f_is_rising : mg "is_rising" = some (.ref (He.fAd K ("is_rising", none)))
  d_is_place : ∃ fd, FnP K "is_place" "is_place" (top 19) (He.fAd K ("is_place", none)) fd
  f_is_place : mg "is_place" = some (.ref (He.fAd K ("is_place", none)))
  d_is_program : ∃ fd, FnP K "is_program" "is_program" (top 20) (He.fAd K ("is_program", none)) fd
  f_is_program : mg "is_program" = some (.ref (He.fAd K ("is_program", none)))
  d_is_steps : ∃ fd, FnP K "is_steps" "is_steps" (top 21) (He.fAd K ("is_steps", none)) fd
  f_is_steps : mg "is_steps" = some (.ref (He.fAd K ("is_steps", none)))
  d_is_watcher : ∃ fd, FnP K "is_watcher" "is_watcher" (top 22) (He.fAd K ("is_watcher", none)) fd
  f_is_watcher : mg "is_watcher" = some (.ref (He.fAd K ("is_watcher", none)))
  d_is_end : ∃ fd, FnP K "is_end" "is_end" (top 23) (He.fAd K ("is_end", none)) fd
  f_is_end : mg "is_end" = some (.ref (He.fAd K ("is_end", none)))
  d_after_one : ∃ fd, FnP K "after_one" "after_one" (top 26) (He.fAd K ("after_one", none)) fd
  f_after_one : mg "after_one" = some (.ref (He.fAd K ("after_one", none)))
  d_after_many : ∃ fd, FnP K "after_many" "after_many" (top 27) (He.fAd K ("after_many", none)) fd
  f_after_many : mg "after_many" = some (.ref (He.fAd K ("after_many", none)))
  d_told_from : ∃ fd, FnP K "told_from" "told_from" (top 28) (He.fAd K ("told_from", none)) fd
  f_told_from : mg "told_from" = some (.ref (He.fAd K ("told_from", none)))
  d_taken_from : ∃ fd, FnP K "taken_from" "taken_from" (top 29) (He.fAd K ("taken_from", none)) fd
  f_taken_from : mg "taken_from" = some (.ref (He.fAd K ("taken_from", none)))
  d_all_moves : ∃ fd, FnP K "all_moves" "all_moves" (top 30) (He.fAd K ("all_moves", none)) fd
  f_all_moves : mg "all_moves" = some (.ref (He.fAd K ("all_moves", none)))
  k_Source : Mk K (He.ga K "Source") (He.fAd K ("Source", some "__init__"))
  d_Source___init__ : ∃ fd, FnP K "__init__" "Source.__init__" (mtop 31 0) (He.fAd K ("Source", some "__init__")) fd
  d_need_weights : ∃ fd, FnP K "need_weights" "need_weights" (top 39) (He.fAd K ("need_weights", none)) fd
  f_need_weights : mg "need_weights" = some (.ref (He.fAd K ("need_weights", none)))
  d_is_offer : ∃ fd, FnP K "is_offer" "is_offer" (top 59) (He.fAd K ("is_offer", none)) fd
  f_is_offer : mg "is_offer" = some (.ref (He.fAd K ("is_offer", none)))
  d_need_offers : ∃ fd, FnP K "need_offers" "need_offers" (top 60) (He.fAd K ("need_offers", none)) fd
  f_need_offers : mg "need_offers" = some (.ref (He.fAd K ("need_offers", none)))
  d_marked : ∃ fd, FnP K "marked" "marked" (top 65) (He.fAd K ("marked", none)) fd
  f_marked : mg "marked" = some (.ref (He.fAd K ("marked", none)))
  d_spread_of : ∃ fd, FnP K "spread_of" "spread_of" (top 46) (He.fAd K ("spread_of", none)) fd
  f_spread_of : mg "spread_of" = some (.ref (He.fAd K ("spread_of", none)))
  d_settled : ∃ fd, FnP K "settled" "settled" (top 66) (He.fAd K ("settled", none)) fd
  f_settled : mg "settled" = some (.ref (He.fAd K ("settled", none)))
  d_breach : ∃ fd, FnP K "breach" "breach" (top 67) (He.fAd K ("breach", none)) fd
  f_breach : mg "breach" = some (.ref (He.fAd K ("breach", none)))
  d_shows_breach : ∃ fd, FnP K "shows_breach" "shows_breach" (top 68) (He.fAd K ("shows_breach", none)) fd
  f_shows_breach : mg "shows_breach" = some (.ref (He.fAd K ("shows_breach", none)))
  d_cheapest : ∃ fd, FnP K "cheapest" "cheapest" (top 69) (He.fAd K ("cheapest", none)) fd
  f_cheapest : mg "cheapest" = some (.ref (He.fAd K ("cheapest", none)))
  d_shows_cheapest : ∃ fd, FnP K "shows_cheapest" "shows_cheapest" (top 72) (He.fAd K ("shows_cheapest", none)) fd
  f_shows_cheapest : mg "shows_cheapest" = some (.ref (He.fAd K ("shows_cheapest", none)))
  d_greatest_high : ∃ fd, FnP K "greatest_high" "greatest_high" (top 74) (He.fAd K ("greatest_high", none)) fd
  f_greatest_high : mg "greatest_high" = some (.ref (He.fAd K ("greatest_high", none)))
  d__law_mixed : ∃ fd, FnP K "_law_mixed" "_law_mixed" (top 76) (He.fAd K ("_law_mixed", none)) fd
  f__law_mixed : mg "_law_mixed" = some (.ref (He.fAd K ("_law_mixed", none)))
  d__law_deck_of : ∃ fd, FnP K "_law_deck_of" "_law_deck_of" (top 77) (He.fAd K ("_law_deck_of", none)) fd
  f__law_deck_of : mg "_law_deck_of" = some (.ref (He.fAd K ("_law_deck_of", none)))
  d__law_below : ∃ fd, FnP K "_law_below" "_law_below" (top 78) (He.fAd K ("_law_below", none)) fd
  f__law_below : mg "_law_below" = some (.ref (He.fAd K ("_law_below", none)))
  d__law_pick : ∃ fd, FnP K "_law_pick" "_law_pick" (top 79) (He.fAd K ("_law_pick", none)) fd
  f__law_pick : mg "_law_pick" = some (.ref (He.fAd K ("_law_pick", none)))
  d__law_some_program : ∃ fd, FnP K "_law_some_program" "_law_some_program" (top 80) (He.fAd K ("_law_some_program", none)) fd
  f__law_some_program : mg "_law_some_program" = some (.ref (He.fAd K ("_law_some_program", none)))
  d__law_some_watcher : ∃ fd, FnP K "_law_some_watcher" "_law_some_watcher" (top 81) (He.fAd K ("_law_some_watcher", none)) fd
  f__law_some_watcher : mg "_law_some_watcher" = some (.ref (He.fAd K ("_law_some_watcher", none)))
  d__law_some_weights : ∃ fd, FnP K "_law_some_weights" "_law_some_weights" (top 82) (He.fAd K ("_law_some_weights", none)) fd
  f__law_some_weights : mg "_law_some_weights" = some (.ref (He.fAd K ("_law_some_weights", none)))
  d__law_some_offers : ∃ fd, FnP K "_law_some_offers" "_law_some_offers" (top 83) (He.fAd K ("_law_some_offers", none)) fd
  f__law_some_offers : mg "_law_some_offers" = some (.ref (He.fAd K ("_law_some_offers", none)))
  d__law_odd_weights : ∃ fd, FnP K "_law_odd_weights" "_law_odd_weights" (top 84) (He.fAd K ("_law_odd_weights", none)) fd
  f__law_odd_weights : mg "_law_odd_weights" = some (.ref (He.fAd K ("_law_odd_weights", none)))
  d__law_asked : ∃ fd, FnP K "_law_asked" "_law_asked" (top 85) (He.fAd K ("_law_asked", none)) fd
  f__law_asked : mg "_law_asked" = some (.ref (He.fAd K ("_law_asked", none)))
  d__law_refusal : ∃ fd, FnP K "_law_refusal" "_law_refusal" (top 86) (He.fAd K ("_law_refusal", none)) fd
  f__law_refusal : mg "_law_refusal" = some (.ref (He.fAd K ("_law_refusal", none)))
  d__law_odd_offers : ∃ fd, FnP K "_law_odd_offers" "_law_odd_offers" (top 87) (He.fAd K ("_law_odd_offers", none)) fd
  f__law_odd_offers : mg "_law_odd_offers" = some (.ref (He.fAd K ("_law_odd_offers", none)))
  d_law : ∃ fd, FnP K "law" "law" (top 88) (He.fAd K ("law", none)) fd
  f_law : mg "law" = some (.ref (He.fAd K ("law", none)))
section
variable {w : World} {K : PySem.W.Frag} {mg : Str → Option Value} {base : Heap}
theorem exmT_ok {X : Cx} (G : Glob X.K X.mg) : ExmOk X exmT := exmOf_ok G.x_all
theorem sc_TooMany : FnScope ["self", "limit"] ["self", "limit"] (defScope (mtop 2 0)) := ⟨rfl, rfl, rfl, by decide +kernel, rfl, by decide +kernel, by decide +kernel⟩
theorem X1_TooMany (G : Glob K mg) : ExcI PP w K mg base 1 "TooMany" "limit" := by
  obtain ⟨fd, F⟩ := G.h_TooMany
  have hno := G.xn_TooMany
  have T := G.o_TooMany
  refine ⟨_, _, fd, ["self", "limit"], T, G.q_TooMany, G.t_TooMany, ?_, F.bindsN (fun _ _ _ _ _ _ us hl => match us, hl with | [_, _], _ => rfl), G.m_TooMany⟩
  generalize He.ga K "TooMany" = C at T hno
  refine Fun.okX F.fun_ sc_TooMany (fun vs H Q E h => ?_) (fun cdv A outer s H vs Q E hr h => ⟨_, pss_cons (ps_expr (pe_ownInit G.b_BlameError (pa_cons (pv 0) (pa_cons (pe_joined (.cons pe_str (.cons (pe_fmt (pv 1)) .nil))) pa_nil)))) (pss_one (ps_ost (pv 0) (pv 1))), ?_⟩)
  · obtain ⟨a, n, rfl, _⟩ := h
    rfl
  · obtain ⟨a, n, rfl, hz, ha, q⟩ := h
    have z1 : ((Str.empty ++ ("more than " : Str) : Str)).length ≤ sizeLine := by decide +kernel
    have z2 : ((Str.empty ++ ("more than " : Str) : Str) ++ (toString n : String)).length ≤ sizeLine := by
      have h1 := int_text_length_le (a := n) (k := 1920) (by decide) hz
      rw [strLen_append]
      have h2 : (Str.empty ++ ("more than " : Str) : Str).length = 10 := by decide +kernel
      have h3 : ((toString n : String) : Str).length = (toString n : String).length := PySem.ofString_length _
      rw [h2, h3, sizeLine_eq]
      omega
    refine ⟨_, rfl, ⟨_, rfl, z1, _, rfl, .inr ⟨n, rfl, hz, _, rfl, z2, ?_⟩⟩⟩
    refine ⟨a, C, _, rfl, by show 1 ≤ 1000; decide, T, ha, ?_⟩
    refine ⟨_, rfl, _, rfl, a, C, rfl, T, hno, .inl ⟨ha, fun dx hd hne => q dx hd hne⟩⟩
theorem sc_is_integer : FnScope ["thing"] ["thing"] (defScope (top 12)) := ⟨rfl, rfl, rfl, by decide +kernel, rfl, by decide +kernel, by decide +kernel⟩
theorem R_is_integer (G : Glob K mg) : Rdy PP w K mg base 1 "is_integer" ["thing"] F_is_integer := by
  obtain ⟨fd, F⟩ := G.d_is_integer
  refine rdy (N := ["thing"]) F G.f_is_integer sc_is_integer (by decide) (fun _ _ _ _ _ _ us hl => match us, hl with | [_], _ => rfl) fun cdv A outer s H E hr tk po => ?_
  exact (dss_one (ds_ret (de_and (de_isa G.g_isinstance (DA.look (da_cons (de_var 0) (da_cons (de_bty rfl G.g_int boot_int') da_nil)))) (de_one (de_not (de_isa G.g_isinstance (DA.look (da_cons (de_var 0) (da_cons (de_bty rfl G.g_bool boot_bool') da_nil)))))))))
theorem sc_is_count : FnScope ["thing"] ["thing"] (defScope (top 13)) := ⟨rfl, rfl, rfl, by decide +kernel, rfl, by decide +kernel, by decide +kernel⟩
theorem R_is_count (G : Glob K mg) : Rdy PP w K mg base 2 "is_count" ["thing"] F_is_count := by
  obtain ⟨fd, F⟩ := G.d_is_count
  refine rdy (N := ["thing"]) F G.f_is_count sc_is_count (by decide) (fun _ _ _ _ _ _ us hl => match us, hl with | [_], _ => rfl) fun cdv A outer s H E hr tk po => ?_
  exact (dss_one (ds_ret (de_and (de_callR (R_is_integer G) hr tk (da_cons (de_var 0) da_nil) (len_cons len_nil)) (de_one (de_cmp opS_ge (d2_ne 0 de_int))))))
theorem sc_is_name : FnScope ["thing", "sign"] ["thing"] (defScope (top 14)) := ⟨rfl, rfl, rfl, by decide +kernel, rfl, by decide +kernel, by decide +kernel⟩
theorem R_is_name (G : Glob K mg) : Rdy PP w K mg base 1 "is_name" ["thing"] F_is_name := by
  obtain ⟨fd, F⟩ := G.d_is_name
  refine rdy (N := ["thing", "sign"]) F G.f_is_name sc_is_name (by decide) (fun _ _ _ _ _ _ us hl => match us, hl with | [_], _ => rfl) fun cdv A outer s H E hr tk po => ?_
  exact (dss_cons (ds_if (DW.dt (dw_or (dt_not (dt_val (de_isa G.g_isinstance (DA.look (da_cons (de_var 0) (da_cons (de_bty rfl G.g_str boot_str') da_nil)))))) (dw_or (dt_not (DB.dt (db_chain opS_le opS_le de_int (de_len G.g_len (dp_name 0)) (de_gint G.i_MAX_NAME)))) (dw_or1 (dt_cmp (opS_notIn hr.u65) (d2_ee (de_ix (d2_ne 0 de_int)) (de_gstr G.s_LETTERS))))))) (dss_one (ds_ret de_bl)) dss_nil)
  (dss_one (ds_ret (de_all G.g_all (DF.look (df_lc sc_is_name.nd [("sign", 1)] (blkOk_by (by rfl)) (di_seq (de_var 0)) (fun b => (dg_name 1 sc_is_name.nd)) (fun b => dts_nil) (fun b => (de_or (de_cmp (opS_in hr.u65) (d2_ne 1 (de_gstr G.s_LETTERS))) (de_one (de_cmp (opS_in hr.u65) (d2_ne 1 (de_gstr G.s_FIGURES))))))))))))
theorem sc_is_rising : FnScope ["thing", "one", "other"] ["thing"] (defScope (top 15)) := ⟨rfl, rfl, rfl, by decide +kernel, rfl, by decide +kernel, by decide +kernel⟩
theorem R_is_rising (G : Glob K mg) : Rdy PP w K mg base 3 "is_rising" ["thing"] F_is_rising := by
  obtain ⟨fd, F⟩ := G.d_is_rising
  refine rdy (N := ["thing", "one", "other"]) F G.f_is_rising sc_is_rising (by decide) (fun _ _ _ _ _ _ us hl => match us, hl with | [_], _ => rfl) fun cdv A outer s H E hr tk po => ?_
  exact (dss_cons (ds_if (DW.dt (dw_or (dt_not (dt_val (de_isa G.g_isinstance (DA.look (da_cons (de_var 0) (da_cons (de_bty rfl G.g_tuple boot_tuple') da_nil)))))) (dw_or1 (dt_not (dt_val (de_all G.g_all (DF.look (df_lc sc_is_rising.nd [("one", 1)] (blkOk_by (by rfl)) (di_seq (de_var 0)) (fun b => (dg_name 1 sc_is_rising.nd)) (fun b => dts_nil) (fun b => (de_callR (R_is_count G) hr takes0 (da_cons (de_var 1) da_nil) (len_cons len_nil))))))))))) (dss_one (ds_ret de_bl)) dss_nil)
  (dss_one (ds_ret (de_all G.g_all (DF.look (df_lc sc_is_rising.nd [("one", 1), ("other", 2)] (blkOk_by (by rfl)) (di_zip G.g_zip (da_cons (de_sliceN 0 do_none (do_some (de_neg de_int))) (da_cons (de_sliceN 0 (do_some de_int) do_none) da_nil))) (fun b => (dg_tup (dgs_cons (dg_name 1 sc_is_rising.nd) (dgs_cons (dg_name 2 sc_is_rising.nd) dgs_nil)))) (fun b => dts_nil) (fun b => (de_cmp opS_lt (d2_nn 1 2)))))))))
theorem sc_is_place : FnScope ["thing", "many", "one"] ["thing", "many"] (defScope (top 19)) := ⟨rfl, rfl, rfl, by decide +kernel, rfl, by decide +kernel, by decide +kernel⟩
theorem R_is_place (G : Glob K mg) : Rdy PP w K mg base 4 "is_place" ["thing", "many"] F_is_place := by
  obtain ⟨fd, F⟩ := G.d_is_place
  refine rdy (N := ["thing", "many", "one"]) F G.f_is_place sc_is_place (by decide) (fun _ _ _ _ _ _ us hl => match us, hl with | [_, _], _ => rfl) fun cdv A outer s H E hr tk po => ?_
  exact (dss_cons (ds_if (DW.dt (dw_or (dt_not (dt_val (de_isa G.g_isinstance (DA.look (da_cons (de_var 0) (da_cons (de_bty rfl G.g_tuple boot_tuple') da_nil)))))) (dw_or (dt_cmp (opS_neD hr.u64) (d2_ee (de_len G.g_len (dp_name 0)) de_int)) (dw_or (dt_not (dt_val (de_callR (R_is_name G) hr tk (da_cons (de_ix (d2_ne 0 de_int)) da_nil) (len_cons len_nil)))) (dw_or1 (dt_not (dt_val (de_callR (R_is_rising G) hr tk (da_cons (de_ix (d2_ne 0 de_int)) da_nil) (len_cons len_nil))))))))) (dss_one (ds_ret de_bl)) dss_nil)
  (dss_one (ds_ret (de_all G.g_all (DF.look (df_lc sc_is_place.nd [("one", 2)] (blkOk_by (by rfl)) (di_seq (de_ix (d2_ne 0 de_int))) (fun b => (dg_name 2 sc_is_place.nd)) (fun b => dts_nil) (fun b => (de_cmp opS_lt (d2_nn 2 1)))))))))
theorem sc_is_program : FnScope ["thing", "one"] ["thing"] (defScope (top 20)) := ⟨rfl, rfl, rfl, by decide +kernel, rfl, by decide +kernel, by decide +kernel⟩
theorem R_is_program (G : Glob K mg) : Rdy PP w K mg base 5 "is_program" ["thing"] F_is_program := by
  obtain ⟨fd, F⟩ := G.d_is_program
  refine rdy (N := ["thing", "one"]) F G.f_is_program sc_is_program (by decide) (fun _ _ _ _ _ _ us hl => match us, hl with | [_], _ => rfl) fun cdv A outer s H E hr tk po => ?_
  exact (dss_cons (ds_if (DW.dt (dw_or (dt_not (dt_val (de_isa G.g_isinstance (DA.look (da_cons (de_var 0) (da_cons (de_bty rfl G.g_tuple boot_tuple') da_nil)))))) (dw_or1 (dt_not (DB.dt (db_chain opS_le opS_le de_int (de_len G.g_len (dp_name 0)) (de_gint G.i_MAX_PLACES))))))) (dss_one (ds_ret de_bl)) dss_nil)
  (dss_one (ds_ret (de_all G.g_all (DF.look (df_lc sc_is_program.nd [("one", 1)] (blkOk_by (by rfl)) (di_seq (de_var 0)) (fun b => (dg_name 1 sc_is_program.nd)) (fun b => dts_nil) (fun b => (de_callR (R_is_place G) hr takes0 (da_cons (de_var 1) (da_cons (de_len G.g_len (dp_name 0)) da_nil)) (len_cons (len_cons len_nil))))))))))
theorem sc_is_steps : FnScope ["thing", "least"] ["thing", "least"] (defScope (top 21)) := ⟨rfl, rfl, rfl, by decide +kernel, rfl, by decide +kernel, by decide +kernel⟩
theorem R_is_steps (G : Glob K mg) : Rdy PP w K mg base 2 "is_steps" ["thing", "least"] F_is_steps := by
  obtain ⟨fd, F⟩ := G.d_is_steps
  refine rdy (N := ["thing", "least"]) F G.f_is_steps sc_is_steps (by decide) (fun _ _ _ _ _ _ us hl => match us, hl with | [_, _], _ => rfl) fun cdv A outer s H E hr tk po => ?_
  exact (dss_one (ds_ret (de_and (de_callR (R_is_integer G) hr tk (da_cons (de_var 0) da_nil) (len_cons len_nil)) (de_one (DB.de (db_chain opS_le opS_le (de_var 1) (de_var 0) (de_gint G.i_MAX_STEPS)))))))
theorem sc_is_watcher : FnScope ["thing", "one"] ["thing"] (defScope (top 22)) := ⟨rfl, rfl, rfl, by decide +kernel, rfl, by decide +kernel, by decide +kernel⟩
theorem R_is_watcher (G : Glob K mg) : Rdy PP w K mg base 4 "is_watcher" ["thing"] F_is_watcher := by
  obtain ⟨fd, F⟩ := G.d_is_watcher
  refine rdy (N := ["thing", "one"]) F G.f_is_watcher sc_is_watcher (by decide) (fun _ _ _ _ _ _ us hl => match us, hl with | [_], _ => rfl) fun cdv A outer s H E hr tk po => ?_
  exact (dss_cons (ds_if (DW.dt (dw_or (dt_not (dt_val (de_isa G.g_isinstance (DA.look (da_cons (de_var 0) (da_cons (de_bty rfl G.g_tuple boot_tuple') da_nil)))))) (dw_or (dt_cmp (opS_neD hr.u64) (d2_ee (de_len G.g_len (dp_name 0)) de_int)) (dw_or (dt_not (dt_val (de_callR (R_is_steps G) hr tk (da_cons (de_ix (d2_ne 0 de_int)) (da_cons de_int da_nil)) (len_cons (len_cons len_nil))))) (dw_or1 (dt_not (dt_val (de_callR (R_is_steps G) hr tk (da_cons (de_ix (d2_ne 0 de_int)) (da_cons de_int da_nil)) (len_cons (len_cons len_nil)))))))))) (dss_one (ds_ret de_bl)) dss_nil)
  (dss_cons (ds_if (DW.dt (dw_and (dt_cmp opS_notN (d2_ee (de_ix (d2_ne 0 de_int)) de_non)) (dw_and1 (dt_not (dt_val (de_callR (R_is_steps G) hr tk (da_cons (de_ix (d2_ne 0 de_int)) (da_cons (de_ix (d2_ne 0 de_int)) da_nil)) (len_cons (len_cons len_nil)))))))) (dss_one (ds_ret de_bl)) dss_nil)
  (dss_cons (ds_if (DW.dt (dw_or (dt_not (dt_val (de_callR (R_is_steps G) hr tk (da_cons (de_ix (d2_ne 0 de_int)) (da_cons (de_ix (d2_ne 0 de_int)) da_nil)) (len_cons (len_cons len_nil))))) (dw_or1 (dt_not (dt_val (de_callR (R_is_rising G) hr tk (da_cons (de_ix (d2_ne 0 de_int)) da_nil) (len_cons len_nil))))))) (dss_one (ds_ret de_bl)) dss_nil)
  (dss_one (ds_ret (de_all G.g_all (DF.look (df_lc sc_is_watcher.nd [("one", 1)] (blkOk_by (by rfl)) (di_seq (de_ix (d2_ne 0 de_int))) (fun b => (dg_name 1 sc_is_watcher.nd)) (fun b => dts_nil) (fun b => (de_cmp opS_lt (d2_ne 1 (de_gint G.i_MAX_PLACES))))))))))))
theorem sc_is_end : FnScope ["program", "place"] ["program", "place"] (defScope (top 23)) := ⟨rfl, rfl, rfl, by decide +kernel, rfl, by decide +kernel, by decide +kernel⟩
theorem R_is_end (G : Glob K mg) : Rdy PP w K mg base 1 "is_end" ["program", "place"] F_is_end := by
  obtain ⟨fd, F⟩ := G.d_is_end
  refine rdy (N := ["program", "place"]) F G.f_is_end sc_is_end (by decide) (fun _ _ _ _ _ _ us hl => match us, hl with | [_, _], _ => rfl) fun cdv A outer s H E hr tk po => ?_
  exact (dss_one (ds_ret (de_cmp (opS_eqD hr.u64) (d2_ee (de_ix (d2_ee (de_ix (d2_nn 0 1)) de_int)) (de_tup da_nil)))))
theorem sc_after_one : FnScope ["program", "places", "one", "other"] ["program", "places"] (defScope (top 26)) := ⟨rfl, rfl, rfl, by decide +kernel, rfl, by decide +kernel, by decide +kernel⟩
theorem R_after_one (G : Glob K mg) : Rdy PP w K mg base 1 "after_one" ["program", "places"] F_after_one := by
  obtain ⟨fd, F⟩ := G.d_after_one
  refine rdy (N := ["program", "places", "one", "other"]) F G.f_after_one sc_after_one (by decide) (fun _ _ _ _ _ _ us hl => match us, hl with | [_, _], _ => rfl) fun cdv A outer s H E hr tk po => ?_
  exact (dss_one (ds_ret (de_tuple G.g_tuple (DF.look (df_sortedSet G.g_sorted G.g_set (DF.look (df_lc2 sc_after_one.nd [("one", 2), ("other", 3)] (blkOk_by (by rfl)) (di_seq (de_var 1)) (fun b => (dg_name 2 sc_after_one.nd)) (fun b => dts_nil) (fun b => (di_seq (de_ix (d2_ee (de_ix (d2_nn 0 2)) de_int)))) (fun b => (dg_name 3 sc_after_one.nd)) (fun b => dts_nil) (fun b => (de_var 3)))))))))
theorem sc_after_many : FnScope ["program", "places", "steps", "more", "lap", "found"] ["program", "places", "steps", "more"] (defScope (top 27)) := ⟨rfl, rfl, rfl, by decide +kernel, rfl, by decide +kernel, by decide +kernel⟩
theorem R_after_many (G : Glob K mg) : Rdy PP w K mg base 2 "after_many" ["program", "places", "steps", "more"] F_after_many := by
  obtain ⟨fd, F⟩ := G.d_after_many
  refine rdy (N := ["program", "places", "steps", "more", "lap", "found"]) F G.f_after_many sc_after_many (by decide) (fun _ _ _ _ _ _ us hl => match us, hl with | [_, _, _, _], _ => rfl) fun cdv A outer s H E hr tk po => ?_
  exact (dss_cons (ds_for po (di_range1 G.g_range (da_cons (de_var 2) da_nil) (len_cons len_nil)) (dg_name 4 sc_after_many.nd)
  (dss_one (ds_set (de_callR (R_after_one G) hr tk (da_cons (de_var 0) (da_cons (de_var 1) da_nil)) (len_cons (len_cons len_nil))) sc_after_many.nd)))
  (dss_cons (ds_set (de_var 1) sc_after_many.nd)
  (dss_cons (ds_for po (di_range1 G.g_range (da_cons (de_var 3) da_nil) (len_cons len_nil)) (dg_name 4 sc_after_many.nd)
  (dss_cons (ds_set (de_callR (R_after_one G) hr tk (da_cons (de_var 0) (da_cons (de_var 1) da_nil)) (len_cons (len_cons len_nil))) sc_after_many.nd)
  (dss_one (ds_set (de_bin opS_add (d2_nn 5 1)) sc_after_many.nd))))
  (dss_one (ds_ret (de_tuple G.g_tuple (DF.look (df_sortedSet G.g_sorted G.g_set (dp_name 5)))))))))
theorem sc_told_from : FnScope ["program", "watcher", "place", "gap", "wide", "low", "high", "marks", "found", "here", "steps", "stops", "one"] ["program", "watcher", "place"] (defScope (top 28)) := ⟨rfl, rfl, rfl, by decide +kernel, rfl, by decide +kernel, by decide +kernel⟩
theorem R_told_from (G : Glob K mg) : Rdy PP w K mg base 2 "told_from" ["program", "watcher", "place"] F_told_from := by
  obtain ⟨fd, F⟩ := G.d_told_from
  refine rdy (N := ["program", "watcher", "place", "gap", "wide", "low", "high", "marks", "found", "here", "steps", "stops", "one"]) F G.f_told_from sc_told_from (by decide) (fun _ _ _ _ _ _ us hl => match us, hl with | [_, _, _], _ => rfl) fun cdv A outer s H E hr tk po => ?_
  exact (dss_cons (ds_asg (de_var 1) (dg_tup (dgs_cons (dg_name 3 sc_told_from.nd) (dgs_cons (dg_name 4 sc_told_from.nd) (dgs_cons (dg_name 5 sc_told_from.nd) (dgs_cons (dg_name 6 sc_told_from.nd) (dgs_cons (dg_name 7 sc_told_from.nd) dgs_nil)))))))
  (dss_cons (ds_set (de_tup da_nil) sc_told_from.nd)
  (dss_cons (ds_set (de_tup (da_cons (de_var 2) da_nil)) sc_told_from.nd)
  (dss_cons (ds_for po (di_range1 G.g_range (da_cons (de_bin opS_add (d2_ne 6 de_int)) da_nil) (len_cons len_nil)) (dg_name 10 sc_told_from.nd)
  (dss_cons (ds_setLcV sc_told_from.nd [("one", 12)] (blkOk_by (by rfl)) (di_seq (de_var 9)) (fun b => (dg_name 12 sc_told_from.nd)) (fun b => (dts_one (DW.dt (dw_or (dt_cmp (opS_in hr.u65) (d2_nn 12 7)) (dw_or1 (dt_val (de_callR (R_is_end G) hr takes0 (da_cons (de_var 0) (da_cons (de_var 12) da_nil)) (len_cons (len_cons len_nil))))))))) (fun b => (de_var 12)))
  (dss_cons (ds_set (de_bin opS_add (d2_ne 8 (de_ifExp (dt_cmp opS_ge (d2_nn 10 5)) (de_var 9) (de_tuple G.g_tuple (dp_name 11))))) sc_told_from.nd)
  (dss_one (ds_set (de_callR (R_after_one G) hr tk (da_cons (de_var 0) (da_cons (DF.de (df_lc sc_told_from.nd [("one", 12)] (blkOk_by (by rfl)) (di_seq (de_var 9)) (fun b => (dg_name 12 sc_told_from.nd)) (fun b => (dts_one (dt_cmp (opS_notIn hr.u65) (d2_nn 12 7)))) (fun b => (de_var 12)))) da_nil)) (len_cons (len_cons len_nil))) sc_told_from.nd)))))
  (dss_one (ds_ret (de_tuple G.g_tuple (DF.look (df_sortedSet G.g_sorted G.g_set (dp_name 8))))))))))
theorem sc_taken_from : FnScope ["program", "watcher", "place", "gap", "wide"] ["program", "watcher", "place"] (defScope (top 29)) := ⟨rfl, rfl, rfl, by decide +kernel, rfl, by decide +kernel, by decide +kernel⟩
theorem R_taken_from (G : Glob K mg) : Rdy PP w K mg base 3 "taken_from" ["program", "watcher", "place"] F_taken_from := by
  obtain ⟨fd, F⟩ := G.d_taken_from
  refine rdy (N := ["program", "watcher", "place", "gap", "wide"]) F G.f_taken_from sc_taken_from (by decide) (fun _ _ _ _ _ _ us hl => match us, hl with | [_, _, _], _ => rfl) fun cdv A outer s H E hr tk po => ?_
  exact (dss_cons (ds_asg (de_sliceN 1 do_none (do_some de_int)) (dg_tup (dgs_cons (dg_name 3 sc_taken_from.nd) (dgs_cons (dg_name 4 sc_taken_from.nd) dgs_nil))))
  (dss_cons (ds_if (dt_cmp (opS_eqD hr.u64) (d2_ne 2 (de_gint G.i_BEGIN))) (dss_one (ds_ret (de_callR (R_after_many G) hr tk (da_cons (de_var 0) (da_cons (de_tup (da_cons de_int da_nil)) (da_cons de_int (da_cons (de_len G.g_len (dp_name 0)) da_nil)))) (len_cons (len_cons (len_cons (len_cons len_nil))))))) dss_nil)
  (dss_one (ds_ret (de_callR (R_after_many G) hr tk (da_cons (de_var 0) (da_cons (de_tup (da_cons (de_var 2) da_nil)) (da_cons (de_var 3) (da_cons (de_ifExp (dt_cmp opS_isN (d2_ne 4 de_non)) (de_len G.g_len (dp_name 0)) (de_bin opS_sub (d2_nn 4 3))) da_nil)))) (len_cons (len_cons (len_cons (len_cons len_nil)))))))))
theorem sc_all_moves : FnScope ["program", "watcher", "told", "place", "one", "other"] ["program", "watcher"] (defScope (top 30)) := ⟨rfl, rfl, rfl, by decide +kernel, rfl, by decide +kernel, by decide +kernel⟩
theorem R_all_moves (G : Glob K mg) : Rdy PP w K mg base 4 "all_moves" ["program", "watcher"] F_all_moves := by
  obtain ⟨fd, F⟩ := G.d_all_moves
  refine rdy (N := ["program", "watcher", "told", "place", "one", "other"]) F G.f_all_moves sc_all_moves (by decide) (fun _ _ _ _ _ _ us hl => match us, hl with | [_, _], _ => rfl) fun cdv A outer s H E hr tk po => ?_
  exact (dss_cons (ds_set (DF.de (df_lc sc_all_moves.nd [("place", 3)] (blkOk_by (by rfl)) (di_range1 G.g_range (da_cons (de_len G.g_len (dp_name 0)) da_nil) (len_cons len_nil)) (fun b => (dg_name 3 sc_all_moves.nd)) (fun b => dts_nil) (fun b => (de_callR (R_told_from G) hr takes0 (da_cons (de_var 0) (da_cons (de_var 1) (da_cons (de_var 3) da_nil))) (len_cons (len_cons (len_cons len_nil))))))) sc_all_moves.nd)
  (dss_one (ds_ret (DF.de (df_lc3 sc_all_moves.nd [("place", 3), ("one", 4), ("other", 5)] (blkOk_by (by rfl)) (di_range2 G.g_range (da_cons (de_gint G.i_BEGIN) (da_cons (de_len G.g_len (dp_name 0)) da_nil)) (len_cons (len_cons len_nil))) (fun b => (dg_name 3 sc_all_moves.nd)) (fun b => dts_nil) (fun b => (di_seq (de_callR (R_taken_from G) hr takes0 (da_cons (de_var 0) (da_cons (de_var 1) (da_cons (de_var 3) da_nil))) (len_cons (len_cons (len_cons len_nil)))))) (fun b => (dg_name 4 sc_all_moves.nd)) (fun b => dts_nil) (fun b => (di_seq (de_ix (d2_nn 2 4)))) (fun b => (dg_name 5 sc_all_moves.nd)) (fun b => dts_nil) (fun b => (de_tup (da_cons (de_var 3) (da_cons (de_var 4) (da_cons (de_var 5) da_nil))))))))))
theorem sc_Source___init__ : FnScope ["self", "program", "watcher", "mark"] ["self", "program", "watcher"] (defScope (mtop 31 0)) := ⟨rfl, rfl, rfl, by decide +kernel, rfl, by decide +kernel, by decide +kernel⟩
theorem R_Source (G : Glob K mg) : RdyC PP w K mg base 6 "Source" 2 F_Source := by
  obtain ⟨fd, F⟩ := G.d_Source___init__
  refine ⟨_, _, fd, ["self", "program", "watcher"], G.k_Source, fnInit (N := ["self", "program", "watcher", "mark"]) F.fun_ sc_Source___init__ (by decide) (fun cdv A outer s H E hr tk po => ?_), G.m_Source, F.bindsN (fun _ _ _ _ _ _ us hl => match us, hl with | [_, _, _], _ => rfl), rfl⟩
  exact (dss_cons (ds_if (dt_not (dt_val (de_callR (R_is_program G) hr tk (da_cons (de_var 1) da_nil) (len_cons len_nil)))) (dss_one (ds_raise (dx_ownR G.e_NoProgram) tk)) dss_nil)
  (dss_cons (ds_if (DW.dt (dw_or (dt_not (dt_val (de_callR (R_is_watcher G) hr tk (da_cons (de_var 2) da_nil) (len_cons len_nil)))) (dw_or1 (dt_not (dt_val (de_all G.g_all (DF.look (df_lc sc_Source___init__.nd [("mark", 3)] (blkOk_by (by rfl)) (di_seq (de_ix (d2_ne 2 de_int))) (fun b => (dg_name 3 sc_Source___init__.nd)) (fun b => dts_nil) (fun b => (de_cmp opS_lt (d2_ne 3 (de_len G.g_len (dp_name 1))))))))))))) (dss_one (ds_raise (dx_ownR G.e_NoWatcher) tk)) dss_nil)
  (dss_cons (ds_self 0 (de_var 1) G.c_Source.mg_ G.c_Source.cl G.n_Source_program)
  (dss_cons (ds_self 0 (de_var 2) G.c_Source.mg_ G.c_Source.cl G.n_Source_watcher)
  (dss_one (ds_self 0 (de_callR (R_all_moves G) hr tk (da_cons (de_var 1) (da_cons (de_var 2) da_nil)) (len_cons (len_cons len_nil))) G.c_Source.mg_ G.c_Source.cl G.n_Source_all))))))
theorem sc_need_weights : FnScope ["source", "weights", "one"] ["source", "weights"] (defScope (top 39)) := ⟨rfl, rfl, rfl, by decide +kernel, rfl, by decide +kernel, by decide +kernel⟩
theorem R_need_weights (G : Glob K mg) : Rdy PP w K mg base 2 "need_weights" ["source", "weights"] F_need_weights := by
  obtain ⟨fd, F⟩ := G.d_need_weights
  refine rdy (N := ["source", "weights", "one"]) F G.f_need_weights sc_need_weights (by decide) (fun _ _ _ _ _ _ us hl => match us, hl with | [_, _], _ => rfl) fun cdv A outer s H E hr tk po => ?_
  exact (dss_cons (ds_if (DW.dt (dw_or (dt_not (dt_val (de_isa G.g_isinstance (DA.look (da_cons (de_var 1) (da_cons (de_bty rfl G.g_tuple boot_tuple') da_nil)))))) (dw_or1 (dt_cmp (opS_neD hr.u64) (d2_ee (de_len G.g_len (dp_name 1)) (de_len G.g_len (DA.look (da_cons (de_fld G.c_Source G.n_Source_program (de_var 0)) da_nil)))))))) (dss_one (ds_raise (dx_ownR G.e_NoWeights) tk)) dss_nil)
  (dss_one (ds_if (dt_not (dt_val (de_all G.g_all (DF.look (df_lc sc_need_weights.nd [("one", 2)] (blkOk_by (by rfl)) (di_seq (de_var 1)) (fun b => (dg_name 2 sc_need_weights.nd)) (fun b => dts_nil) (fun b => (de_and (de_callR (R_is_integer G) hr takes0 (da_cons (de_var 2) da_nil) (len_cons len_nil)) (de_one (de_cmp opS_le (d2_ee (de_abs G.g_abs (dp_name 2)) (de_gint G.i_MAX_WEIGHT))))))))))) (dss_one (ds_raise (dx_ownR G.e_NoWeights) tk)) dss_nil)))
theorem sc_is_offer : FnScope ["source", "thing"] ["source", "thing"] (defScope (top 59)) := ⟨rfl, rfl, rfl, by decide +kernel, rfl, by decide +kernel, by decide +kernel⟩
theorem R_is_offer (G : Glob K mg) : Rdy PP w K mg base 3 "is_offer" ["source", "thing"] F_is_offer := by
  obtain ⟨fd, F⟩ := G.d_is_offer
  refine rdy (N := ["source", "thing"]) F G.f_is_offer sc_is_offer (by decide) (fun _ _ _ _ _ _ us hl => match us, hl with | [_, _], _ => rfl) fun cdv A outer s H E hr tk po => ?_
  exact (dss_cons (ds_if (DW.dt (dw_or (dt_not (dt_val (de_isa G.g_isinstance (DA.look (da_cons (de_var 1) (da_cons (de_bty rfl G.g_tuple boot_tuple') da_nil)))))) (dw_or (dt_cmp (opS_neD hr.u64) (d2_ee (de_len G.g_len (dp_name 1)) de_int)) (dw_or (dt_not (dt_val (de_callR (R_is_count G) hr tk (da_cons (de_ix (d2_ne 1 de_int)) da_nil) (len_cons len_nil)))) (dw_or1 (dt_not (dt_val (de_callR (R_is_count G) hr tk (da_cons (de_ix (d2_ne 1 de_int)) da_nil) (len_cons len_nil))))))))) (dss_one (ds_ret de_bl)) dss_nil)
  (dss_one (ds_ret (de_and (de_cmp opS_lt (d2_ee (de_ix (d2_ne 1 de_int)) (de_len G.g_len (DA.look (da_cons (de_fld G.c_Source G.n_Source_program (de_var 0)) da_nil))))) (de_one (de_cmp (opS_notIn hr.u65) (d2_ee (de_ix (d2_ne 1 de_int)) (de_ix (d2_ee (de_fld G.c_Source G.n_Source_watcher (de_var 0)) de_int)))))))))
theorem sc_need_offers : FnScope ["source", "offers", "offer", "place", "price"] ["source", "offers"] (defScope (top 60)) := ⟨rfl, rfl, rfl, by decide +kernel, rfl, by decide +kernel, by decide +kernel⟩
theorem R_need_offers (G : Glob K mg) : Rdy PP w K mg base 4 "need_offers" ["source", "offers"] F_need_offers := by
  obtain ⟨fd, F⟩ := G.d_need_offers
  refine rdy (N := ["source", "offers", "offer", "place", "price"]) F G.f_need_offers sc_need_offers (by decide) (fun _ _ _ _ _ _ us hl => match us, hl with | [_, _], _ => rfl) fun cdv A outer s H E hr tk po => ?_
  exact (dss_cons (ds_if (DW.dt (dw_or (dt_not (dt_val (de_isa G.g_isinstance (DA.look (da_cons (de_var 1) (da_cons (de_bty rfl G.g_list boot_list') da_nil)))))) (dw_or1 (dt_not (dt_val (de_all G.g_all (DF.look (df_lc sc_need_offers.nd [("offer", 2)] (blkOk_by (by rfl)) (di_seq (de_var 1)) (fun b => (dg_name 2 sc_need_offers.nd)) (fun b => dts_nil) (fun b => (de_callR (R_is_offer G) hr takes0 (da_cons (de_var 0) (da_cons (de_var 2) da_nil)) (len_cons (len_cons len_nil)))))))))))) (dss_one (ds_raise (dx_ownR G.e_NoChange) tk)) dss_nil)
  (dss_cons (ds_if (dt_cmp (opS_neD hr.u64) (d2_ee (de_lenD G.g_len (DA.look (da_cons (de_dc sc_need_offers.nd [("place", 3), ("price", 4)] (blkOk_by (by rfl)) (di_seq (de_var 1)) (fun b => (dg_tup (dgs_cons (dg_name 3 sc_need_offers.nd) (dgs_cons (dg_name 4 sc_need_offers.nd) dgs_nil)))) (fun b => dts_nil) (fun b => (de_var 3)) (fun b => de_bl)) da_nil))) (de_len G.g_len (dp_name 1)))) (dss_one (ds_raise (dx_ownR G.e_NoChange) tk)) dss_nil)
  (dss_one (ds_if (dt_cmp opS_gt (d2_ee (de_len G.g_len (dp_name 1)) (de_gint G.i_MAX_OFFERS))) (dss_one (ds_raise (dx_initR (X1_TooMany G) hr (de_gint G.i_MAX_OFFERS)) tk)) dss_nil))))
theorem sc_marked : FnScope ["source", "offers", "choice"] ["source", "offers", "choice"] (defScope (top 65)) := ⟨rfl, rfl, rfl, by decide +kernel, rfl, by decide +kernel, by decide +kernel⟩
theorem R_marked (G : Glob K mg) : Rdy PP w K mg base 5 "marked" ["source", "offers", "choice"] F_marked := by
  obtain ⟨fd, F⟩ := G.d_marked
  refine rdy (N := ["source", "offers", "choice"]) F G.f_marked sc_marked (by decide) (fun _ _ _ _ _ _ us hl => match us, hl with | [_, _, _], _ => rfl) fun cdv A outer s H E hr tk po => ?_
  exact (dss_cons (ds_expr (de_callR (R_need_offers G) hr tk (da_cons (de_var 0) (da_cons (de_var 1) da_nil)) (len_cons (len_cons len_nil))))
  dss_never)
theorem sc_spread_of : FnScope ["source", "weights", "ways"] ["source", "weights"] (defScope (top 46)) := ⟨rfl, rfl, rfl, by decide +kernel, rfl, by decide +kernel, by decide +kernel⟩
theorem R_spread_of (G : Glob K mg) : Rdy PP w K mg base 3 "spread_of" ["source", "weights"] F_spread_of := by
  obtain ⟨fd, F⟩ := G.d_spread_of
  refine rdy (N := ["source", "weights", "ways"]) F G.f_spread_of sc_spread_of (by decide) (fun _ _ _ _ _ _ us hl => match us, hl with | [_, _], _ => rfl) fun cdv A outer s H E hr tk po => ?_
  exact (dss_cons (ds_expr (de_callR (R_need_weights G) hr tk (da_cons (de_var 0) (da_cons (de_var 1) da_nil)) (len_cons (len_cons len_nil))))
  dss_never)
theorem sc_settled : FnScope ["source", "weights", "bound", "found"] ["source", "weights", "bound"] (defScope (top 66)) := ⟨rfl, rfl, rfl, by decide +kernel, rfl, by decide +kernel, by decide +kernel⟩
theorem R_settled (G : Glob K mg) : Rdy PP w K mg base 4 "settled" ["source", "weights", "bound"] F_settled := by
  obtain ⟨fd, F⟩ := G.d_settled
  refine rdy (N := ["source", "weights", "bound", "found"]) F G.f_settled sc_settled (by decide) (fun _ _ _ _ _ _ us hl => match us, hl with | [_, _, _], _ => rfl) fun cdv A outer s H E hr tk po => ?_
  exact (dss_cons (ds_set (de_callR (R_spread_of G) hr tk (da_cons (de_var 0) (da_cons (de_var 1) da_nil)) (len_cons (len_cons len_nil))) sc_settled.nd)
  dss_never)
theorem sc_breach : FnScope ["source", "weights", "bound", "found"] ["source", "weights", "bound"] (defScope (top 67)) := ⟨rfl, rfl, rfl, by decide +kernel, rfl, by decide +kernel, by decide +kernel⟩
theorem R_breach (G : Glob K mg) : Rdy PP w K mg base 4 "breach" ["source", "weights", "bound"] F_breach := by
  obtain ⟨fd, F⟩ := G.d_breach
  refine rdy (N := ["source", "weights", "bound", "found"]) F G.f_breach sc_breach (by decide) (fun _ _ _ _ _ _ us hl => match us, hl with | [_, _, _], _ => rfl) fun cdv A outer s H E hr tk po => ?_
  exact (dss_cons (ds_set (de_callR (R_spread_of G) hr tk (da_cons (de_var 0) (da_cons (de_var 1) da_nil)) (len_cons (len_cons len_nil))) sc_breach.nd)
  dss_never)
theorem sc_shows_breach : FnScope ["source", "weights", "bound", "thing"] ["source", "weights", "bound", "thing"] (defScope (top 68)) := ⟨rfl, rfl, rfl, by decide +kernel, rfl, by decide +kernel, by decide +kernel⟩
theorem R_shows_breach (G : Glob K mg) : Rdy PP w K mg base 3 "shows_breach" ["source", "weights", "bound", "thing"] F_shows_breach := by
  obtain ⟨fd, F⟩ := G.d_shows_breach
  refine rdy (N := ["source", "weights", "bound", "thing"]) F G.f_shows_breach sc_shows_breach (by decide) (fun _ _ _ _ _ _ us hl => match us, hl with | [_, _, _, _], _ => rfl) fun cdv A outer s H E hr tk po => ?_
  exact (dss_cons (ds_expr (de_callR (R_need_weights G) hr tk (da_cons (de_var 0) (da_cons (de_var 1) da_nil)) (len_cons (len_cons len_nil))))
  dss_never)
theorem sc_cheapest : FnScope ["source", "weights", "bound", "offers", "reasons", "choice", "here", "found"] ["source", "weights", "bound", "offers"] (defScope (top 69)) := ⟨rfl, rfl, rfl, by decide +kernel, rfl, by decide +kernel, by decide +kernel⟩
theorem R_cheapest (G : Glob K mg) : Rdy PP w K mg base 5 "cheapest" ["source", "weights", "bound", "offers"] F_cheapest := by
  obtain ⟨fd, F⟩ := G.d_cheapest
  refine rdy (N := ["source", "weights", "bound", "offers", "reasons", "choice", "here", "found"]) F G.f_cheapest sc_cheapest (by decide) (fun _ _ _ _ _ _ us hl => match us, hl with | [_, _, _, _], _ => rfl) fun cdv A outer s H E hr tk po => ?_
  exact (dss_cons (ds_expr (de_callR (R_need_weights G) hr tk (da_cons (de_var 0) (da_cons (de_var 1) da_nil)) (len_cons (len_cons len_nil))))
  (dss_cons (ds_expr (de_callR (R_need_offers G) hr tk (da_cons (de_var 0) (da_cons (de_var 3) da_nil)) (len_cons (len_cons len_nil))))
  dss_never))
theorem sc_shows_cheapest : FnScope ["source", "weights", "bound", "offers", "thing", "order", "choice", "price", "bounds", "reasons", "one", "reason"] ["source", "weights", "bound", "offers", "thing"] (defScope (top 72)) := ⟨rfl, rfl, rfl, by decide +kernel, rfl, by decide +kernel, by decide +kernel⟩
theorem R_shows_cheapest (G : Glob K mg) : Rdy PP w K mg base 5 "shows_cheapest" ["source", "weights", "bound", "offers", "thing"] F_shows_cheapest := by
  obtain ⟨fd, F⟩ := G.d_shows_cheapest
  refine rdy (N := ["source", "weights", "bound", "offers", "thing", "order", "choice", "price", "bounds", "reasons", "one", "reason"]) F G.f_shows_cheapest sc_shows_cheapest (by decide) (fun _ _ _ _ _ _ us hl => match us, hl with | [_, _, _, _, _], _ => rfl) fun cdv A outer s H E hr tk po => ?_
  exact (dss_cons (ds_expr (de_callR (R_need_weights G) hr tk (da_cons (de_var 0) (da_cons (de_var 1) da_nil)) (len_cons (len_cons len_nil))))
  (dss_cons (ds_expr (de_callR (R_need_offers G) hr tk (da_cons (de_var 0) (da_cons (de_var 3) da_nil)) (len_cons (len_cons len_nil))))
  dss_never))
theorem sc_greatest_high : FnScope ["source", "weights", "bound", "found", "high"] ["source", "weights", "bound"] (defScope (top 74)) := ⟨rfl, rfl, rfl, by decide +kernel, rfl, by decide +kernel, by decide +kernel⟩
theorem R_greatest_high (G : Glob K mg) : Rdy PP w K mg base 3 "greatest_high" ["source", "weights", "bound"] F_greatest_high := by
  obtain ⟨fd, F⟩ := G.d_greatest_high
  refine rdy (N := ["source", "weights", "bound", "found", "high"]) F G.f_greatest_high sc_greatest_high (by decide) (fun _ _ _ _ _ _ us hl => match us, hl with | [_, _, _], _ => rfl) fun cdv A outer s H E hr tk po => ?_
  exact (dss_cons (ds_expr (de_callR (R_need_weights G) hr tk (da_cons (de_var 0) (da_cons (de_var 1) da_nil)) (len_cons (len_cons len_nil))))
  dss_never)
theorem sc__law_mixed : FnScope ["number", "lap", "prime", "found", "again"] ["number", "lap"] (defScope (top 76)) := ⟨rfl, rfl, rfl, by decide +kernel, rfl, by decide +kernel, by decide +kernel⟩
theorem R__law_mixed (G : Glob K mg) : Rdy PP w K mg base 1 "_law_mixed" ["number", "lap"] F__law_mixed := by
  obtain ⟨fd, F⟩ := G.d__law_mixed
  refine rdy (N := ["number", "lap", "prime", "found", "again"]) F G.f__law_mixed sc__law_mixed (by decide) (fun _ _ _ _ _ _ us hl => match us, hl with | [_, _], _ => rfl) fun cdv A outer s H E hr tk po => ?_
  exact (dss_cons (ds_set de_int sc__law_mixed.nd)
  (dss_cons (ds_set (de_bin opS_mod (d2_en 2 (de_intc G.g_int (DA.look (da_cons (de_bin opS_add (d2_ee (de_bin opS_add (d2_ee (de_bin opS_mul (d2_ne 0 de_int)) (de_bin opS_mul (d2_ne 1 de_int)))) de_int)) da_nil))))) sc__law_mixed.nd)
  (dss_cons (ds_for po (di_range1 G.g_range (da_cons de_int da_nil) (len_cons len_nil)) (dg_name 4 sc__law_mixed.nd)
  (dss_one (ds_set (de_bin opS_mod (d2_en 2 (de_intc G.g_int (DA.look (da_cons (de_bin opS_add (d2_en 1 (de_bin opS_add (d2_ee (de_bin opS_add (d2_ee (de_bin opS_mul (d2_nn 3 3)) (de_bin opS_mul (d2_en 3 de_int)))) (de_bin opS_mul (d2_en 4 de_int)))))) da_nil))))) sc__law_mixed.nd)))
  (dss_one (ds_ret (de_bin opS_add (d2_ee (de_bin opS_mul (d2_nn 3 2)) (de_bin opS_mod (d2_en 2 (de_intc G.g_int (DA.look (da_cons (de_bin opS_add (d2_en 1 (de_bin opS_mul (d2_ne 3 de_int)))) da_nil))))))))))))
theorem sc__law_deck_of : FnScope ["script", "cell", "cells", "place"] ["script"] (defScope (top 77)) := ⟨rfl, rfl, rfl, by decide +kernel, rfl, by decide +kernel, by decide +kernel⟩
theorem R__law_deck_of (G : Glob K mg) : Rdy PP w K mg base 1 "_law_deck_of" ["script"] F__law_deck_of := by
  obtain ⟨fd, F⟩ := G.d__law_deck_of
  refine rdy (N := ["script", "cell", "cells", "place"]) F G.f__law_deck_of sc__law_deck_of (by decide) (fun _ _ _ _ _ _ us hl => match us, hl with | [_], _ => rfl) fun cdv A outer s H E hr tk po => ?_
  exact (dss_cons (ds_setLc sc__law_deck_of.nd [("cell", 1)] (blkOk_by (by rfl)) (di_seq (de_sliceN 0 do_none (do_some de_int))) (fun b => (dg_name 1 sc__law_deck_of.nd)) (fun b => dts_nil) (fun b => (de_abs G.g_abs (dp_name 1))))
  (dss_cons (ds_for po (di_enum G.g_enumerate (da_cons (de_sliceN 0 (do_some de_int) (do_some de_int)) da_nil)) (dg_tup (dgs_cons (dg_name 3 sc__law_deck_of.nd) (dgs_cons (dg_name 1 sc__law_deck_of.nd) dgs_nil)))
  (dss_one (ds_asg (de_bin opS_add (d2_ee (de_ix (d2_ne 2 (de_bin opS_mod (d2_ne 3 de_int)))) (de_abs G.g_abs (dp_name 1)))) (dg_sub 2 (de_bin opS_mod (d2_ne 3 de_int))))))
  (dss_one (ds_ret (DF.cell (df_lst (da_cons (de_var 2) (da_cons de_int (da_cons de_int (da_cons de_int da_nil))))))))))
theorem sc__law_below : FnScope ["deck", "bound", "cells", "place", "amount", "found"] ["deck", "bound"] (defScope (top 78)) := ⟨rfl, rfl, rfl, by decide +kernel, rfl, by decide +kernel, by decide +kernel⟩
theorem R__law_below (G : Glob K mg) : Rdy PP w K mg base 2 "_law_below" ["deck", "bound"] F__law_below := by
  obtain ⟨fd, F⟩ := G.d__law_below
  refine rdy (N := ["deck", "bound", "cells", "place", "amount", "found"]) F G.f__law_below sc__law_below (by decide) (fun _ _ _ _ _ _ us hl => match us, hl with | [_, _], _ => rfl) fun cdv A outer s H E hr tk po => ?_
  exact (dss_cons (ds_if (dt_cmp opS_lt (d2_en 1 (de_ix (d2_ne 0 de_int)))) (dss_cons (ds_par (da_cons (de_ix (d2_ne 0 de_int)) (da_cons (de_ix (d2_ne 0 de_int)) da_nil)) sc__law_below.nd)
  (dss_cons (ds_set (de_ifExp (dt_cmp (opS_neD hr.u64) (d2_ne 2 (DF.de (df_lst da_nil)))) (de_ix (d2_ne 2 (de_bin opS_mod (d2_ee (de_intc G.g_int (dp_name 3)) (de_len G.g_len (dp_name 2)))))) de_int) sc__law_below.nd)
  (dss_cons (ds_if (DW.dt (dw_or (dt_cmp opS_ge (d2_ne 3 (de_len G.g_len (dp_name 2)))) (dw_or1 (dt_cmp opS_lt (d2_ne 4 (de_bin opS_pow (d2_ee de_int de_int))))))) (dss_one (ds_set (de_callR (R__law_mixed G) hr tk (da_cons (de_bin opS_mod (d2_ee (de_intc G.g_int (dp_name 4)) de_int)) (da_cons (de_var 3) da_nil)) (len_cons (len_cons len_nil))) sc__law_below.nd)) dss_nil)
  (dss_cons (ds_asg (de_bin opS_add (d2_ne 3 de_int)) (dg_sub 0 de_int))
  (dss_cons (ds_asg (de_var 4) (dg_sub 0 de_int))
  (dss_one (ds_asg (de_var 4) (dg_sub 0 de_int)))))))) dss_nil)
  (dss_cons (ds_set (de_bin opS_mod (d2_en 1 (de_intc G.g_int (DA.look (da_cons (de_ix (d2_ne 0 de_int)) da_nil))))) sc__law_below.nd)
  (dss_cons (ds_asg (de_bin opS_fdiv (d2_en 1 (de_ix (d2_ne 0 de_int)))) (dg_sub 0 de_int))
  (dss_cons (ds_asg (de_bin opS_fdiv (d2_en 1 (de_ix (d2_ne 0 de_int)))) (dg_sub 0 de_int))
  (dss_one (ds_ret (de_var 5)))))))
theorem sc__law_pick : FnScope ["deck", "some"] ["deck", "some"] (defScope (top 79)) := ⟨rfl, rfl, rfl, by decide +kernel, rfl, by decide +kernel, by decide +kernel⟩
theorem R__law_pick (G : Glob K mg) : Rdy PP w K mg base 3 "_law_pick" ["deck", "some"] F__law_pick := by
  obtain ⟨fd, F⟩ := G.d__law_pick
  refine rdy (N := ["deck", "some"]) F G.f__law_pick sc__law_pick (by decide) (fun _ _ _ _ _ _ us hl => match us, hl with | [_, _], _ => rfl) fun cdv A outer s H E hr tk po => ?_
  exact (dss_one (ds_ret (de_ix (d2_ne 1 (de_callR (R__law_below G) hr tk (da_cons (de_var 0) (da_cons (de_len G.g_len (dp_name 1)) da_nil)) (len_cons (len_cons len_nil)))))))
theorem sc__law_some_program : FnScope ["deck", "many", "count", "signs", "found", "way", "place", "nexts", "other"] ["deck", "many"] (defScope (top 80)) := ⟨rfl, rfl, rfl, by decide +kernel, rfl, by decide +kernel, by decide +kernel⟩
theorem R__law_some_program (G : Glob K mg) : Rdy PP w K mg base 4 "_law_some_program" ["deck", "many"] F__law_some_program := by
  obtain ⟨fd, F⟩ := G.d__law_some_program
  refine rdy (N := ["deck", "many", "count", "signs", "found", "way", "place", "nexts", "other"]) F G.f__law_some_program sc__law_some_program (by decide) (fun _ _ _ _ _ _ us hl => match us, hl with | [_, _], _ => rfl) fun cdv A outer s H E hr tk po => ?_
  exact (dss_cons (ds_par (da_cons (de_bin opS_add (d2_ee de_int (de_callR (R__law_below G) hr tk (da_cons (de_var 0) (da_cons (de_var 1) da_nil)) (len_cons (len_cons len_nil))))) (da_cons (de_slice (DF.de (df_lst (da_cons de_str (da_cons de_str (da_cons de_str (da_cons de_str da_nil)))))) do_none (do_some (de_bin opS_add (d2_ee de_int (de_callR (R__law_below G) hr tk (da_cons (de_var 0) (da_cons de_int da_nil)) (len_cons (len_cons len_nil))))))) da_nil)) sc__law_some_program.nd)
  (dss_cons (ds_parL (df_lst da_nil) (de_callR (R__law_below G) hr tk (da_cons (de_var 0) (da_cons de_int da_nil)) (len_cons (len_cons len_nil))) sc__law_some_program.nd)
  (dss_cons (ds_for po (di_range1 G.g_range (da_cons (de_var 2) da_nil) (len_cons len_nil)) (dg_name 6 sc__law_some_program.nd)
  (dss_cons (ds_setLc sc__law_some_program.nd [("other", 8)] (blkOk_by (by rfl)) (di_range1 G.g_range (da_cons (de_var 2) da_nil) (len_cons len_nil)) (fun b => (dg_name 8 sc__law_some_program.nd)) (fun b => (dts_one (dt_cmp (opS_eqD hr.u64) (d2_ee (de_callR (R__law_below G) hr takes0 (da_cons (de_var 0) (da_cons de_int da_nil)) (len_cons (len_cons len_nil))) de_int)))) (fun b => (de_var 8)))
  (dss_cons (ds_if (dt_cmp opS_gt (d2_ne 5 de_int)) (dss_one (ds_expr (de_mut 7 mut_append PySem.F.slot_list_append PySem.F.type_list_append (da_cons (de_bin opS_mod (d2_en 2 (de_bin opS_add (d2_ne 6 de_int)))) da_nil)))) dss_nil)
  (dss_cons (ds_if (DW.dt (dw_and (dt_cmp (opS_eqD hr.u64) (d2_ne 5 de_int)) (dw_and1 (dt_cmp (opS_eqD hr.u64) (d2_ne 6 (de_bin opS_sub (d2_ne 2 de_int))))))) (dss_one (ds_setO (df_lst da_nil) sc__law_some_program.nd)) dss_nil)
  (dss_one (ds_expr (de_mut 4 mut_append PySem.F.slot_list_append PySem.F.type_list_append (da_cons (de_tup (da_cons (de_callR (R__law_pick G) hr tk (da_cons (de_var 0) (da_cons (de_var 3) da_nil)) (len_cons (len_cons len_nil))) (da_cons (de_tuple G.g_tuple (DF.look (df_sortedSet G.g_sorted G.g_set (dp_name 7)))) da_nil))) da_nil))))))))
  (dss_one (ds_ret (de_tuple G.g_tuple (dp_name 4)))))))
theorem sc__law_some_watcher : FnScope ["deck", "count", "gap", "low", "high", "spare", "marks", "place"] ["deck", "count"] (defScope (top 81)) := ⟨rfl, rfl, rfl, by decide +kernel, rfl, by decide +kernel, by decide +kernel⟩
theorem R__law_some_watcher (G : Glob K mg) : Rdy PP w K mg base 4 "_law_some_watcher" ["deck", "count"] F__law_some_watcher := by
  obtain ⟨fd, F⟩ := G.d__law_some_watcher
  refine rdy (N := ["deck", "count", "gap", "low", "high", "spare", "marks", "place"]) F G.f__law_some_watcher sc__law_some_watcher (by decide) (fun _ _ _ _ _ _ us hl => match us, hl with | [_, _], _ => rfl) fun cdv A outer s H E hr tk po => ?_
  exact (dss_cons (ds_par (da_cons (de_callR (R__law_pick G) hr tk (da_cons (de_var 0) (da_cons (DF.de (df_lst (da_cons de_int (da_cons de_int (da_cons de_int (da_cons de_int (da_cons de_int (da_cons (de_bin opS_add (d2_ee de_int (de_callR (R__law_below G) hr tk (da_cons (de_var 0) (da_cons de_int da_nil)) (len_cons (len_cons len_nil))))) da_nil)))))))) da_nil)) (len_cons (len_cons len_nil))) (da_cons (de_callR (R__law_pick G) hr tk (da_cons (de_var 0) (da_cons (DF.de (df_lst (da_cons de_int (da_cons de_int (da_cons de_int (da_cons de_int (da_cons de_int (da_cons de_int da_nil)))))))) da_nil)) (len_cons (len_cons len_nil))) da_nil)) sc__law_some_watcher.nd)
  (dss_cons (ds_set (de_bin opS_add (d2_ne 3 (de_callR (R__law_pick G) hr tk (da_cons (de_var 0) (da_cons (DF.de (df_lst (da_cons de_int (da_cons de_int (da_cons de_int (da_cons de_int (da_cons de_int (da_cons de_int da_nil)))))))) da_nil)) (len_cons (len_cons len_nil))))) sc__law_some_watcher.nd)
  (dss_cons (ds_set (DF.de (df_lst (da_cons de_non (da_cons (de_var 2) (da_cons (de_var 2) (da_cons (de_min2 G.g_min (DA.look (da_cons de_int (da_cons (de_bin opS_add (d2_ne 2 de_int)) da_nil)))) (da_cons (de_min2 G.g_min (DA.look (da_cons de_int (da_cons (de_bin opS_add (d2_ne 2 de_int)) da_nil)))) da_nil))))))) sc__law_some_watcher.nd)
  (dss_cons (ds_setLcV sc__law_some_watcher.nd [("place", 7)] (blkOk_by (by rfl)) (di_range1 G.g_range (da_cons (de_var 1) da_nil) (len_cons len_nil)) (fun b => (dg_name 7 sc__law_some_watcher.nd)) (fun b => (dts_one (dt_cmp (opS_eqD hr.u64) (d2_ee (de_callR (R__law_below G) hr takes0 (da_cons (de_var 0) (da_cons de_int da_nil)) (len_cons (len_cons len_nil))) de_int)))) (fun b => (de_var 7)))
  (dss_one (ds_ret (de_tup (da_cons (de_var 2) (da_cons (de_callR (R__law_pick G) hr tk (da_cons (de_var 0) (da_cons (de_var 5) da_nil)) (len_cons (len_cons len_nil))) (da_cons (de_var 3) (da_cons (de_var 4) (da_cons (de_tuple G.g_tuple (dp_name 6)) da_nil))))))))))))
theorem sc__law_some_weights : FnScope ["deck", "count", "kind", "one", "place"] ["deck", "count"] (defScope (top 82)) := ⟨rfl, rfl, rfl, by decide +kernel, rfl, by decide +kernel, by decide +kernel⟩
theorem R__law_some_weights (G : Glob K mg) : Rdy PP w K mg base 3 "_law_some_weights" ["deck", "count"] F__law_some_weights := by
  obtain ⟨fd, F⟩ := G.d__law_some_weights
  refine rdy (N := ["deck", "count", "kind", "one", "place"]) F G.f__law_some_weights sc__law_some_weights (by decide) (fun _ _ _ _ _ _ us hl => match us, hl with | [_, _], _ => rfl) fun cdv A outer s H E hr tk po => ?_
  exact (dss_cons (ds_set (de_callR (R__law_below G) hr tk (da_cons (de_var 0) (da_cons de_int da_nil)) (len_cons (len_cons len_nil))) sc__law_some_weights.nd)
  (dss_cons (ds_if (dt_cmp (opS_eqD hr.u64) (d2_ne 2 de_int)) (dss_cons (ds_set (de_callR (R__law_below G) hr tk (da_cons (de_var 0) (da_cons (de_var 1) da_nil)) (len_cons (len_cons len_nil))) sc__law_some_weights.nd)
  (dss_one (ds_ret (de_tuple G.g_tuple (DF.look (df_lc sc__law_some_weights.nd [("place", 4)] (blkOk_by (by rfl)) (di_range1 G.g_range (da_cons (de_var 1) da_nil) (len_cons len_nil)) (fun b => (dg_name 4 sc__law_some_weights.nd)) (fun b => dts_nil) (fun b => (de_intc G.g_int (DA.look (da_cons (de_cmp (opS_eqD hr.u64) (d2_nn 4 3)) da_nil)))))))))) dss_nil)
  (dss_cons (ds_if (dt_cmp (opS_eqD hr.u64) (d2_ne 2 de_int)) (dss_one (ds_ret (de_tuple G.g_tuple (DF.look (df_lc sc__law_some_weights.nd [("place", 4)] (blkOk_by (by rfl)) (di_range1 G.g_range (da_cons (de_var 1) da_nil) (len_cons len_nil)) (fun b => (dg_name 4 sc__law_some_weights.nd)) (fun b => dts_nil) (fun b => (de_bin opS_sub (d2_ee (de_callR (R__law_below G) hr takes0 (da_cons (de_var 0) (da_cons (de_bin opS_add (d2_ee (de_bin opS_mul (d2_ee de_int (de_bin opS_pow (d2_ee de_int de_int)))) de_int)) da_nil)) (len_cons (len_cons len_nil))) (de_bin opS_pow (d2_ee de_int de_int)))))))))) dss_nil)
  (dss_one (ds_ret (de_tuple G.g_tuple (DF.look (df_lc sc__law_some_weights.nd [("place", 4)] (blkOk_by (by rfl)) (di_range1 G.g_range (da_cons (de_var 1) da_nil) (len_cons len_nil)) (fun b => (dg_name 4 sc__law_some_weights.nd)) (fun b => dts_nil) (fun b => (de_bin opS_sub (d2_ee (de_callR (R__law_below G) hr takes0 (da_cons (de_var 0) (da_cons de_int da_nil)) (len_cons (len_cons len_nil))) de_int)))))))))))
theorem sc__law_some_offers : FnScope ["deck", "program", "watcher", "bound", "found", "place", "price"] ["deck", "program", "watcher", "bound"] (defScope (top 83)) := ⟨rfl, rfl, rfl, by decide +kernel, rfl, by decide +kernel, by decide +kernel⟩
theorem R__law_some_offers (G : Glob K mg) : Rdy PP w K mg base 4 "_law_some_offers" ["deck", "program", "watcher", "bound"] F__law_some_offers := by
  obtain ⟨fd, F⟩ := G.d__law_some_offers
  refine rdy (N := ["deck", "program", "watcher", "bound", "found", "place", "price"]) F G.f__law_some_offers sc__law_some_offers (by decide) (fun _ _ _ _ _ _ us hl => match us, hl with | [_, _, _, _], _ => rfl) fun cdv A outer s H E hr tk po => ?_
  exact (dss_cons (ds_setO (df_lst da_nil) sc__law_some_offers.nd)
  (dss_cons (ds_for po (di_range1 G.g_range (da_cons (de_len G.g_len (dp_name 1)) da_nil) (len_cons len_nil)) (dg_name 5 sc__law_some_offers.nd)
  (dss_one (ds_if (DW.dt (dw_and (dt_cmp (opS_notIn hr.u65) (d2_ne 5 (de_ix (d2_ne 2 de_int)))) (dw_and (dt_cmp opS_lt (d2_en 3 (de_len G.g_len (dp_name 4)))) (dw_and1 (dt_cmp opS_gt (d2_ee (de_callR (R__law_below G) hr tk (da_cons (de_var 0) (da_cons de_int da_nil)) (len_cons (len_cons len_nil))) de_int)))))) (dss_cons (ds_set (de_callR (R__law_pick G) hr tk (da_cons (de_var 0) (da_cons (DF.de (df_lst (da_cons de_int (da_cons de_int (da_cons de_int (da_cons de_int (da_cons de_int (da_cons (de_callR (R__law_below G) hr tk (da_cons (de_var 0) (da_cons (de_bin opS_pow (d2_ee de_int de_int)) da_nil)) (len_cons (len_cons len_nil))) da_nil)))))))) da_nil)) (len_cons (len_cons len_nil))) sc__law_some_offers.nd)
  (dss_one (ds_expr (de_mut 4 mut_insert PySem.F.slot_list_insert PySem.F.type_list_insert (da_cons (de_callR (R__law_below G) hr tk (da_cons (de_var 0) (da_cons (de_bin opS_add (d2_ee (de_len G.g_len (dp_name 4)) de_int)) da_nil)) (len_cons (len_cons len_nil))) (da_cons (de_tup (da_cons (de_var 5) (da_cons (de_var 6) da_nil))) da_nil)))))) dss_nil)))
  (dss_one (ds_ret (de_var 4)))))
theorem sc__law_odd_weights : FnScope ["deck", "weights", "at", "odd", "some"] ["deck", "weights"] (defScope (top 84)) := ⟨rfl, rfl, rfl, by decide +kernel, rfl, by decide +kernel, by decide +kernel⟩
theorem R__law_odd_weights (G : Glob K mg) : Rdy PP w K mg base 4 "_law_odd_weights" ["deck", "weights"] F__law_odd_weights := by
  obtain ⟨fd, F⟩ := G.d__law_odd_weights
  refine rdy (N := ["deck", "weights", "at", "odd", "some"]) F G.f__law_odd_weights sc__law_odd_weights (by decide) (fun _ _ _ _ _ _ us hl => match us, hl with | [_, _], _ => rfl) fun cdv A outer s H E hr tk po => ?_
  exact (dss_cons (ds_set (de_callR (R__law_below G) hr tk (da_cons (de_var 0) (da_cons (de_len G.g_len (dp_name 1)) da_nil)) (len_cons (len_cons len_nil))) sc__law_odd_weights.nd)
  (dss_cons (ds_set (de_callR (R__law_pick G) hr tk (da_cons (de_var 0) (da_cons (DF.de (df_lst (da_cons de_non (da_cons de_bl (da_cons de_str (da_cons (de_bin opS_add (d2_ee (de_bin opS_pow (d2_ee de_int de_int)) de_int)) (da_cons (de_bin opS_sub (d2_ee (de_bin opS_sub (d2_ee de_int (de_bin opS_pow (d2_ee de_int de_int)))) de_int)) (da_cons (de_tup (da_cons de_int da_nil)) (da_cons (DF.de (df_lst (da_cons de_int da_nil))) da_nil))))))))) da_nil)) (len_cons (len_cons len_nil))) sc__law_odd_weights.nd)
  (dss_cons (ds_set (DF.de (df_lst (da_cons (DF.de (df_list G.g_list (dp_name 1))) (da_cons (de_bin opS_add (d2_ne 1 (de_tup (da_cons de_int da_nil)))) (da_cons (de_sliceN 1 (do_some de_int) do_none) (da_cons de_non (da_cons de_dict0 (da_cons de_str (da_cons de_int da_nil))))))))) sc__law_odd_weights.nd)
  (dss_cons (ds_if (dt_cmp (opS_eqD hr.u64) (d2_ee (de_callR (R__law_below G) hr tk (da_cons (de_var 0) (da_cons de_int da_nil)) (len_cons (len_cons len_nil))) de_int)) (dss_one (ds_ret (de_callR (R__law_pick G) hr tk (da_cons (de_var 0) (da_cons (de_var 4) da_nil)) (len_cons (len_cons len_nil))))) dss_nil)
  (dss_one (ds_ret (de_bin opS_add (d2_ee (de_bin opS_add (d2_ee (de_sliceN 1 do_none (do_some (de_var 2))) (de_tup (da_cons (de_var 3) da_nil)))) (de_sliceN 1 (do_some (de_bin opS_add (d2_ne 2 de_int))) do_none)))))))))
theorem sc__law_asked : FnScope ["which", "source", "weights", "offers"] ["which", "source", "weights", "offers"] (defScope (top 85)) := ⟨rfl, rfl, rfl, by decide +kernel, rfl, by decide +kernel, by decide +kernel⟩
theorem R__law_asked (G : Glob K mg) : Rdy PP w K mg base 6 "_law_asked" ["which", "source", "weights", "offers"] F__law_asked := by
  obtain ⟨fd, F⟩ := G.d__law_asked
  refine rdy (N := ["which", "source", "weights", "offers"]) F G.f__law_asked sc__law_asked (by decide) (fun _ _ _ _ _ _ us hl => match us, hl with | [_, _, _, _], _ => rfl) fun cdv A outer s H E hr tk po => ?_
  exact (dss_cons (ds_if (dt_cmp (opS_eqD hr.u64) (d2_ne 0 de_int)) (dss_one (ds_ret (de_callR (R_cheapest G) hr tk (da_cons (de_var 1) (da_cons (de_var 2) (da_cons de_int (da_cons (de_var 3) da_nil)))) (len_cons (len_cons (len_cons (len_cons len_nil))))))) dss_nil)
  (dss_cons (ds_if (dt_cmp (opS_eqD hr.u64) (d2_ne 0 de_int)) (dss_one (ds_ret (de_callR (R_shows_cheapest G) hr tk (da_cons (de_var 1) (da_cons (de_var 2) (da_cons de_int (da_cons (de_var 3) (da_cons de_non da_nil))))) (len_cons (len_cons (len_cons (len_cons (len_cons len_nil)))))))) dss_nil)
  (dss_cons (ds_if (dt_cmp (opS_eqD hr.u64) (d2_ne 0 de_int)) (dss_one (ds_ret (de_callR (R_settled G) hr tk (da_cons (de_var 1) (da_cons (de_var 2) (da_cons de_int da_nil))) (len_cons (len_cons (len_cons len_nil)))))) dss_nil)
  (dss_cons (ds_if (dt_cmp (opS_eqD hr.u64) (d2_ne 0 de_int)) (dss_one (ds_ret (de_callR (R_breach G) hr tk (da_cons (de_var 1) (da_cons (de_var 2) (da_cons de_int da_nil))) (len_cons (len_cons (len_cons len_nil)))))) dss_nil)
  (dss_cons (ds_if (dt_cmp (opS_eqD hr.u64) (d2_ne 0 de_int)) (dss_one (ds_ret (de_callR (R_shows_breach G) hr tk (da_cons (de_var 1) (da_cons (de_var 2) (da_cons de_int (da_cons de_non da_nil)))) (len_cons (len_cons (len_cons (len_cons len_nil))))))) dss_nil)
  (dss_one (ds_ret (de_callR (R_greatest_high G) hr tk (da_cons (de_var 1) (da_cons (de_var 2) (da_cons de_int da_nil))) (len_cons (len_cons (len_cons len_nil)))))))))))
theorem sc__law_refusal : FnScope ["which", "source", "weights", "offers", "told", "e"] ["which", "source", "weights", "offers"] (defScope (top 86)) := ⟨rfl, rfl, rfl, by decide +kernel, rfl, by decide +kernel, by decide +kernel⟩
theorem R__law_refusal (G : Glob K mg) : Rdy PP w K mg base 7 "_law_refusal" ["which", "source", "weights", "offers"] F__law_refusal := by
  obtain ⟨fd, F⟩ := G.d__law_refusal
  refine rdy (N := ["which", "source", "weights", "offers", "told", "e"]) F G.f__law_refusal sc__law_refusal (by decide) (fun _ _ _ _ _ _ us hl => match us, hl with | [_, _, _, _], _ => rfl) fun cdv A outer s H E hr tk po => ?_
  exact (dss_cons (ds_set de_non sc__law_refusal.nd)
  (dss_cons (ds_try sc__law_refusal.nd tk (exmT_ok G) (fun _ pn xe tk po => (dss_one (ds_if (dt_cmp opS_lt (d2_ne 0 de_int)) (dss_one (ds_expr (de_callR (R__law_asked G) hr tk (da_cons (de_var 0) (da_cons (de_var 1) (da_cons (de_var 2) (da_cons (de_var 3) da_nil)))) (len_cons (len_cons (len_cons (len_cons len_nil))))))) (dss_one (ds_expr (de_callR (R_marked G) hr tk (da_cons (de_var 1) (da_cons (de_var 3) (da_cons (de_ix (d2_ee (DF.de (df_lst (da_cons (de_tup da_nil) (da_cons de_non (da_cons (DF.de (df_lst (da_cons de_int da_nil))) (da_cons (de_tup (da_cons de_int da_nil)) da_nil)))))) (de_bin opS_sub (d2_ne 0 de_int)))) da_nil))) (len_cons (len_cons (len_cons len_nil)))))))))
  (.plain G.m_NoWeights rfl (by decide) (fun a oe C d pn hz hf => (dss_one (ds_set de_str sc__law_refusal.nd))) (.plain G.m_NoChange rfl (by decide) (fun a oe C d pn hz hf => (dss_one (ds_set de_str sc__law_refusal.nd))) (.named G.m_TooMany rfl (by decide) rfl rfl (fun a oe C d pn hz hf => (dss_one (ds_set (de_tup (da_cons de_str (da_cons (de_xf 5 hz hf G.m_TooMany G.xf_TooMany G.xn_TooMany) da_nil))) sc__law_refusal.nd))) (.plain G.m_Mismatch rfl (by decide) (fun a oe C d pn hz hf => (dss_one (ds_set de_str sc__law_refusal.nd))) .nil)))))
  (dss_one (ds_ret (de_var 4)))))
theorem sc__law_odd_offers : FnScope ["deck", "program", "watcher", "offers", "at", "free", "way", "place", "rows", "odd", "one", "mark"] ["deck", "program", "watcher", "offers"] (defScope (top 87)) := ⟨rfl, rfl, rfl, by decide +kernel, rfl, by decide +kernel, by decide +kernel⟩
theorem R__law_odd_offers (G : Glob K mg) : Rdy PP w K mg base 4 "_law_odd_offers" ["deck", "program", "watcher", "offers"] F__law_odd_offers := by
  obtain ⟨fd, F⟩ := G.d__law_odd_offers
  refine rdy (N := ["deck", "program", "watcher", "offers", "at", "free", "way", "place", "rows", "odd", "one", "mark"]) F G.f__law_odd_offers sc__law_odd_offers (by decide) (fun _ _ _ _ _ _ us hl => match us, hl with | [_, _, _, _], _ => rfl) fun cdv A outer s H E hr tk po => ?_
  exact (dss_cons (ds_par (da_cons (de_callR (R__law_below G) hr tk (da_cons (de_var 0) (da_cons (de_bin opS_add (d2_ee (de_len G.g_len (dp_name 3)) de_int)) da_nil)) (len_cons (len_cons len_nil))) (da_cons (DF.de (df_lc sc__law_odd_offers.nd [("one", 10)] (blkOk_by (by rfl)) (di_range1 G.g_range (da_cons (de_len G.g_len (dp_name 1)) da_nil) (len_cons len_nil)) (fun b => (dg_name 10 sc__law_odd_offers.nd)) (fun b => (dts_one (dt_cmp (opS_notIn hr.u65) (d2_ne 10 (de_ix (d2_ne 2 de_int)))))) (fun b => (de_var 10)))) da_nil)) sc__law_odd_offers.nd)
  (dss_cons (ds_set (de_callR (R__law_below G) hr tk (da_cons (de_var 0) (da_cons de_int da_nil)) (len_cons (len_cons len_nil))) sc__law_odd_offers.nd)
  (dss_cons (ds_if (dt_cmp (opS_eqD hr.u64) (d2_ne 6 de_int)) (dss_one (ds_ret (DF.de (df_lst (da_cons (de_callR (R__law_pick G) hr tk (da_cons (de_var 0) (da_cons (DF.de (df_lst (da_cons (de_tuple G.g_tuple (dp_name 3)) (da_cons de_non (da_cons de_dict0 (da_cons de_str (da_cons de_int da_nil))))))) da_nil)) (len_cons (len_cons len_nil))) (da_cons de_str da_nil)))))) dss_nil)
  (dss_cons (ds_if (DW.dt (dw_and (dt_cmp (opS_eqD hr.u64) (d2_ne 6 de_int)) (dw_and1 (dt_cmp opS_gt (d2_ee (de_len G.g_len (dp_name 5)) de_int))))) (dss_one (ds_ret (DF.de (df_lst (da_cons (DF.de (df_lc sc__law_odd_offers.nd [("place", 7)] (blkOk_by (by rfl)) (di_seq (de_var 5)) (fun b => (dg_name 7 sc__law_odd_offers.nd)) (fun b => dts_nil) (fun b => (de_tup (da_cons (de_var 7) (da_cons de_int da_nil)))))) (da_cons (de_tup (da_cons de_str (da_cons de_int da_nil))) da_nil)))))) dss_nil)
  (dss_cons (ds_if (DW.dt (dw_and (dt_cmp (opS_eqD hr.u64) (d2_ne 6 de_int)) (dw_and1 (dt_cmp (opS_neD hr.u64) (d2_ne 5 (DF.de (df_lst da_nil))))))) (dss_cons (ds_set (de_callR (R__law_pick G) hr tk (da_cons (de_var 0) (da_cons (de_var 5) da_nil)) (len_cons (len_cons len_nil))) sc__law_odd_offers.nd)
  (dss_cons (ds_setLc sc__law_odd_offers.nd [("one", 10)] (blkOk_by (by rfl)) (di_seq (de_var 5)) (fun b => (dg_name 10 sc__law_odd_offers.nd)) (fun b => dts_nil) (fun b => (de_tup (da_cons (de_var 10) (da_cons de_int da_nil)))))
  (dss_cons (ds_expr (de_mut 8 mut_insert PySem.F.slot_list_insert PySem.F.type_list_insert (da_cons (de_callR (R__law_below G) hr tk (da_cons (de_var 0) (da_cons (de_bin opS_add (d2_ee (de_len G.g_len (dp_name 8)) de_int)) da_nil)) (len_cons (len_cons len_nil))) (da_cons (de_tup (da_cons (de_var 7) (da_cons (de_callR (R__law_below G) hr tk (da_cons (de_var 0) (da_cons de_int da_nil)) (len_cons (len_cons len_nil))) da_nil))) da_nil))))
  (dss_one (ds_ret (DF.de (df_lst (da_cons (de_var 8) (da_cons de_str da_nil))))))))) dss_nil)
  (dss_cons (ds_set (de_callR (R__law_pick G) hr tk (da_cons (de_var 0) (da_cons (DF.de (df_lst (da_cons de_non (da_cons (DF.de (df_lst (da_cons de_int (da_cons de_int da_nil)))) (da_cons (de_tup (da_cons de_int da_nil)) (da_cons (de_tup (da_cons de_int (da_cons de_int (da_cons de_int da_nil)))) (da_cons (de_tup (da_cons (de_len G.g_len (dp_name 1)) (da_cons de_int da_nil))) (da_cons (de_tup (da_cons (de_bin opS_sub (d2_ee de_int de_int)) (da_cons de_int da_nil))) (da_cons (de_tup (da_cons de_bl (da_cons de_int da_nil))) (da_cons (de_tup (da_cons de_str (da_cons de_int da_nil))) da_nil)))))))))) da_nil)) (len_cons (len_cons len_nil))) sc__law_odd_offers.nd)
  (dss_cons (ds_if (dt_cmp (opS_eqD hr.u64) (d2_ee (de_callR (R__law_below G) hr tk (da_cons (de_var 0) (da_cons de_int da_nil)) (len_cons (len_cons len_nil))) de_int)) (dss_one (ds_set (de_callR (R__law_pick G) hr tk (da_cons (de_var 0) (da_cons (de_bin opS_add (d2_ee (DF.de (df_lst (da_cons (de_tup (da_cons de_int (da_cons de_non da_nil))) (da_cons (de_tup (da_cons de_int (da_cons de_bl da_nil))) (da_cons (de_tup (da_cons de_int (da_cons de_str da_nil))) (da_cons (de_tup (da_cons de_int (da_cons (de_bin opS_sub (d2_ee de_int de_int)) da_nil))) da_nil)))))) (DF.de (df_lc sc__law_odd_offers.nd [("mark", 11)] (blkOk_by (by rfl)) (di_seq (de_ix (d2_ne 2 de_int))) (fun b => (dg_name 11 sc__law_odd_offers.nd)) (fun b => dts_nil) (fun b => (de_tup (da_cons (de_var 11) (da_cons de_int da_nil)))))))) da_nil)) (len_cons (len_cons len_nil))) sc__law_odd_offers.nd)) dss_nil)
  (dss_one (ds_ret (DF.de (df_lst (da_cons (de_bin opS_add (d2_ee (de_bin opS_add (d2_ee (de_sliceN 3 do_none (do_some (de_var 4))) (DF.de (df_lst (da_cons (de_var 9) da_nil))))) (de_sliceN 3 (do_some (de_var 4)) do_none))) (da_cons de_str da_nil)))))))))))))
theorem sc_law : FnScope ["script", "deck", "turn", "program", "watcher", "source", "weights", "offers", "which", "due", "bits", "before"] ["script"] (defScope (top 88)) := ⟨rfl, rfl, rfl, by decide +kernel, rfl, by decide +kernel, by decide +kernel⟩
theorem D_law (G : Glob K mg) {fd : FuncData} (F : FnP K "law" "law" (top 88) (He.fAd K ("law", none)) fd) : FnD PP w K mg base 8 (He.fAd K ("law", none)) fd ["script"] F_law := by
  refine fnD (N := ["script", "deck", "turn", "program", "watcher", "source", "weights", "offers", "which", "due", "bits", "before"]) F.fun_ sc_law (by decide) fun cdv A outer s H E hr tk po => ?_
  exact (dss_cons (ds_set (de_callR (R__law_deck_of G) hr tk (da_cons (de_var 0) da_nil) (len_cons len_nil)) sc_law.nd)
  (dss_cons (ds_for po (di_range1 G.g_range (da_cons de_int da_nil) (len_cons len_nil)) (dg_name 2 sc_law.nd)
  (dss_cons (ds_set (de_callR (R__law_some_program G) hr tk (da_cons (de_var 1) (da_cons de_int da_nil)) (len_cons (len_cons len_nil))) sc_law.nd)
  (dss_cons (ds_set (de_callR (R__law_some_watcher G) hr tk (da_cons (de_var 1) (da_cons (de_len G.g_len (dp_name 3)) da_nil)) (len_cons (len_cons len_nil))) sc_law.nd)
  (dss_cons (ds_par (da_cons (de_makeR (R_Source G) hr tk (da_cons (de_var 3) (da_cons (de_var 4) da_nil)) (len_cons (len_cons len_nil))) (da_cons (de_callR (R__law_some_weights G) hr tk (da_cons (de_var 1) (da_cons (de_len G.g_len (dp_name 3)) da_nil)) (len_cons (len_cons len_nil))) da_nil)) sc_law.nd)
  (dss_cons (ds_par (da_cons (de_callR (R__law_some_offers G) hr tk (da_cons (de_var 1) (da_cons (de_var 3) (da_cons (de_var 4) (da_cons de_int da_nil)))) (len_cons (len_cons (len_cons (len_cons len_nil))))) (da_cons (de_callR (R__law_below G) hr tk (da_cons (de_var 1) (da_cons de_int da_nil)) (len_cons (len_cons len_nil))) da_nil)) sc_law.nd)
  (dss_cons (ds_par (da_cons de_non (da_cons (de_callR (R__law_pick G) hr tk (da_cons (de_var 1) (da_cons (DF.de (df_lst (da_cons de_int (da_cons de_int (da_cons de_int da_nil))))) da_nil)) (len_cons (len_cons len_nil))) da_nil)) sc_law.nd)
  (dss_cons (ds_if (DW.dt (dw_and (dt_cmp opS_gt (d2_ne 10 de_int)) (dw_and1 (dt_cmp (opS_notIn hr.u65) (d2_ne 8 (DF.de (df_lst (da_cons de_int (da_cons de_int (da_cons de_int (da_cons de_int da_nil))))))))))) (dss_one (ds_asg (de_callR (R__law_odd_offers G) hr tk (da_cons (de_var 1) (da_cons (de_var 3) (da_cons (de_var 4) (da_cons (de_var 7) da_nil)))) (len_cons (len_cons (len_cons (len_cons len_nil))))) (dg_tup (dgs_cons (dg_name 7 sc_law.nd) (dgs_cons (dg_name 9 sc_law.nd) dgs_nil))))) dss_nil)
  (dss_cons (ds_if (DW.dt (dw_and (dt_cmp (opS_eqD hr.u64) (d2_ee (de_bin opS_mod (d2_ee (de_intc G.g_int (dp_name 10)) de_int)) de_int)) (dw_and1 (dt_cmp opS_lt (d2_ne 8 de_int))))) (dss_one (ds_par (da_cons (de_callR (R__law_odd_weights G) hr tk (da_cons (de_var 1) (da_cons (de_var 6) da_nil)) (len_cons (len_cons len_nil))) (da_cons de_str da_nil)) sc_law.nd)) dss_nil)
  (dss_cons (ds_set (de_repr hr G.g_repr (DA.look (da_cons (de_tup (da_cons (de_var 6) (da_cons (de_var 7) da_nil))) da_nil))) sc_law.nd)
  (dss_cons (ds_if (DW.dt (dw_and (dt_cmp opS_notN (d2_ne 9 de_non)) (dw_and1 (dt_cmp (opS_neD hr.u64) (d2_en 9 (de_callR (R__law_refusal G) hr tk (da_cons (de_var 8) (da_cons (de_var 5) (da_cons (de_var 6) (da_cons (de_var 7) da_nil)))) (len_cons (len_cons (len_cons (len_cons len_nil)))))))))) (dss_one (ds_ret de_bl)) dss_nil)
  (dss_one (ds_if (DW.dt (dw_or (dt_cmp (opS_neD hr.u64) (d2_en 11 (de_repr hr G.g_repr (DA.look (da_cons (de_tup (da_cons (de_var 6) (da_cons (de_var 7) da_nil))) da_nil))))) (dw_or1 (dt_cmp (opS_neD hr.u64) (d2_ee (de_repr hr G.g_repr (DA.look (da_cons (de_fld G.c_Source G.n_Source_watcher (de_var 5)) da_nil))) (de_repr hr G.g_repr (dp_name 4))))))) (dss_one (ds_ret de_bl)) dss_nil))))))))))))
  (dss_one (ds_ret de_bl))))
end
end K55
set_option Elab.async false
set_option linter.all false
set_option maxRecDepth 100000
set_option maxHeartbeats 0
namespace K55
open PySem PySem.Spec PyProof.Rows L2 DM
theorem glob_of {K : PySem.W.Frag} {h : Heap} {mg : Str → Option Value} (X : K.In h) (G : h.Ns mainGlobals mg) (c : SaysX fbs fns K) : Glob K mg where
  i_BEGIN := He.int_ok X G (c.fact 0 (p := (fun K => (He.Fa.int "BEGIN" (-1)).ok K)) rfl)
  s_FIGURES := He.str_ok X G (c.fact 1 (p := (fun K => (He.Fa.str "FIGURES" "0123456789").ok K)) rfl)
  s_LETTERS := He.str_ok X G (c.fact 2 (p := (fun K => (He.Fa.str "LETTERS" "abcdefghijklmnopqrstuvwxyz").ok K)) rfl)
  i_MAX_NAME := He.int_ok X G (c.fact 3 (p := (fun K => (He.Fa.int "MAX_NAME" 8).ok K)) rfl)
  i_MAX_OFFERS := He.int_ok X G (c.fact 4 (p := (fun K => (He.Fa.int "MAX_OFFERS" 6).ok K)) rfl)
  i_MAX_PLACES := He.int_ok X G (c.fact 5 (p := (fun K => (He.Fa.int "MAX_PLACES" 8).ok K)) rfl)
  i_MAX_STEPS := He.int_ok X G (c.fact 6 (p := (fun K => (He.Fa.int "MAX_STEPS" 30).ok K)) rfl)
  i_MAX_WEIGHT := He.int_ok X G (c.fact 7 (p := (fun K => (He.Fa.int "MAX_WEIGHT" 1000000).ok K)) rfl)
  g_abs := He.free_ok X G (c.fact 8 (p := (fun K => (He.Fa.free "abs").ok K)) rfl)
  g_all := He.free_ok X G (c.fact 9 (p := (fun K => (He.Fa.free "all").ok K)) rfl)
  g_bool := He.free_ok X G (c.fact 10 (p := (fun K => (He.Fa.free "bool").ok K)) rfl)
  c_Source := ⟨He.glo_ok X G (c.fact 11 (p := (fun K => (He.Fa.glo "Source").ok K)) rfl), He.cls_ok (c.fact 12 (p := (fun K => (He.Fa.cls "Source").ok K)) rfl)⟩
  g_enumerate := He.free_ok X G (c.fact 13 (p := (fun K => (He.Fa.free "enumerate").ok K)) rfl)
  g_int := He.free_ok X G (c.fact 14 (p := (fun K => (He.Fa.free "int").ok K)) rfl)
  g_isinstance := He.free_ok X G (c.fact 15 (p := (fun K => (He.Fa.free "isinstance").ok K)) rfl)
  g_len := He.free_ok X G (c.fact 16 (p := (fun K => (He.Fa.free "len").ok K)) rfl)
  g_list := He.free_ok X G (c.fact 17 (p := (fun K => (He.Fa.free "list").ok K)) rfl)
  g_min := He.free_ok X G (c.fact 18 (p := (fun K => (He.Fa.free "min").ok K)) rfl)
  n_Source_all := He.noat_ok (c.fact 19 (p := (fun K => (He.Fa.noat "Source" "all").ok K)) rfl)
  n_Source_program := He.noat_ok (c.fact 20 (p := (fun K => (He.Fa.noat "Source" "program").ok K)) rfl)
  n_Source_watcher := He.noat_ok (c.fact 21 (p := (fun K => (He.Fa.noat "Source" "watcher").ok K)) rfl)
  g_range := He.free_ok X G (c.fact 22 (p := (fun K => (He.Fa.free "range").ok K)) rfl)
  g_repr := He.free_ok X G (c.fact 23 (p := (fun K => (He.Fa.free "repr").ok K)) rfl)
  g_set := He.free_ok X G (c.fact 24 (p := (fun K => (He.Fa.free "set").ok K)) rfl)
  g_sorted := He.free_ok X G (c.fact 25 (p := (fun K => (He.Fa.free "sorted").ok K)) rfl)
  g_str := He.free_ok X G (c.fact 26 (p := (fun K => (He.Fa.free "str").ok K)) rfl)
  g_tuple := He.free_ok X G (c.fact 27 (p := (fun K => (He.Fa.free "tuple").ok K)) rfl)
  g_zip := He.free_ok X G (c.fact 28 (p := (fun K => (He.Fa.free "zip").ok K)) rfl)
  m_Mismatch := He.glo_ok X G (c.fact 29 (p := (fun K => (He.Fa.glo "Mismatch").ok K)) rfl)
  m_NoChange := He.glo_ok X G (c.fact 30 (p := (fun K => (He.Fa.glo "NoChange").ok K)) rfl)
  m_NoProgram := He.glo_ok X G (c.fact 31 (p := (fun K => (He.Fa.glo "NoProgram").ok K)) rfl)
  m_NoWatcher := He.glo_ok X G (c.fact 32 (p := (fun K => (He.Fa.glo "NoWatcher").ok K)) rfl)
  m_NoWeights := He.glo_ok X G (c.fact 33 (p := (fun K => (He.Fa.glo "NoWeights").ok K)) rfl)
  m_Source := He.glo_ok X G (c.fact 34 (p := (fun K => (He.Fa.glo "Source").ok K)) rfl)
  m_TooMany := He.glo_ok X G (c.fact 35 (p := (fun K => (He.Fa.glo "TooMany").ok K)) rfl)
  e_NoChange := excR_ok X G (c.fact 36 (p := (fun K => (He.Fa.exc "NoChange").ok K)) rfl) (c.fact 37 (p := (fun K => (He.Fa.glo "NoChange").ok K)) rfl)
  e_NoProgram := excR_ok X G (c.fact 38 (p := (fun K => (He.Fa.exc "NoProgram").ok K)) rfl) (c.fact 39 (p := (fun K => (He.Fa.glo "NoProgram").ok K)) rfl)
  e_NoWatcher := excR_ok X G (c.fact 40 (p := (fun K => (He.Fa.exc "NoWatcher").ok K)) rfl) (c.fact 41 (p := (fun K => (He.Fa.glo "NoWatcher").ok K)) rfl)
  e_NoWeights := excR_ok X G (c.fact 42 (p := (fun K => (He.Fa.exc "NoWeights").ok K)) rfl) (c.fact 43 (p := (fun K => (He.Fa.glo "NoWeights").ok K)) rfl)
  x_all := exmT_all X G (c.fact 44 (p := (fExm exmTab)) rfl)
  o_TooMany := oex_ok (c.fact 45 (p := (fOex "TooMany")) rfl)
  q_TooMany := He.eqO_ok (He.ba (c.fact 46 (p := (fFnd "TooMany" "__init__")) rfl)).1
  t_TooMany := of_decide_eq_true (He.ba (c.fact 46 (p := (fFnd "TooMany" "__init__")) rfl)).2
  xf_TooMany := xfB_ok (c.fact 47 (p := (fXf "TooMany")) rfl)
  xn_TooMany := He.eqO_ok (c.fact 48 (p := (fNone "TooMany" "limit")) rfl)
  b_BlameError := ini_ok X G (c.fact 49 (p := (fIni "BlameError")) rfl)
  h_TooMany := c.def_ 0 (d := dme "TooMany" "__init__" "TooMany.__init__" (mtop 2 0)) rfl
  d_is_integer := c.def_ 1 (d := dfn "is_integer" (top 12)) rfl
  f_is_integer := He.glo_ok X G (c.fact 50 (p := (fun K => (He.Fa.glo "is_integer").ok K)) rfl)
  d_is_count := c.def_ 2 (d := dfn "is_count" (top 13)) rfl
  f_is_count := He.glo_ok X G (c.fact 51 (p := (fun K => (He.Fa.glo "is_count").ok K)) rfl)
  d_is_name := c.def_ 3 (d := dfn "is_name" (top 14)) rfl
  f_is_name := He.glo_ok X G (c.fact 52 (p := (fun K => (He.Fa.glo "is_name").ok K)) rfl)
  d_is_rising := c.def_ 4 (d := dfn "is_rising" (top 15)) rfl
  f_is_rising := He.glo_ok X G (c.fact 53 (p := (fun K => (He.Fa.glo "is_rising").ok K)) rfl)
  d_is_place := c.def_ 5 (d := dfn "is_place" (top 19)) rfl
  f_is_place := He.glo_ok X G (c.fact 54 (p := (fun K => (He.Fa.glo "is_place").ok K)) rfl)
  d_is_program := c.def_ 6 (d := dfn "is_program" (top 20)) rfl
  f_is_program := He.glo_ok X G (c.fact 55 (p := (fun K => (He.Fa.glo "is_program").ok K)) rfl)
  d_is_steps := c.def_ 7 (d := dfn "is_steps" (top 21)) rfl
  f_is_steps := He.glo_ok X G (c.fact 56 (p := (fun K => (He.Fa.glo "is_steps").ok K)) rfl)
  d_is_watcher := c.def_ 8 (d := dfn "is_watcher" (top 22)) rfl
  f_is_watcher := He.glo_ok X G (c.fact 57 (p := (fun K => (He.Fa.glo "is_watcher").ok K)) rfl)
  d_is_end := c.def_ 9 (d := dfn "is_end" (top 23)) rfl
  f_is_end := He.glo_ok X G (c.fact 58 (p := (fun K => (He.Fa.glo "is_end").ok K)) rfl)
  d_after_one := c.def_ 10 (d := dfn "after_one" (top 26)) rfl
  f_after_one := He.glo_ok X G (c.fact 59 (p := (fun K => (He.Fa.glo "after_one").ok K)) rfl)
  d_after_many := c.def_ 11 (d := dfn "after_many" (top 27)) rfl
  f_after_many := He.glo_ok X G (c.fact 60 (p := (fun K => (He.Fa.glo "after_many").ok K)) rfl)
  d_told_from := c.def_ 12 (d := dfn "told_from" (top 28)) rfl
  f_told_from := He.glo_ok X G (c.fact 61 (p := (fun K => (He.Fa.glo "told_from").ok K)) rfl)
  d_taken_from := c.def_ 13 (d := dfn "taken_from" (top 29)) rfl
  f_taken_from := He.glo_ok X G (c.fact 62 (p := (fun K => (He.Fa.glo "taken_from").ok K)) rfl)
  d_all_moves := c.def_ 14 (d := dfn "all_moves" (top 30)) rfl
  f_all_moves := He.glo_ok X G (c.fact 63 (p := (fun K => (He.Fa.glo "all_moves").ok K)) rfl)
  d_Source___init__ := c.def_ 15 (d := dme "Source" "__init__" "Source.__init__" (mtop 31 0)) rfl
  k_Source := He.mkr_ok (c.fact 64 (p := (fun K => (He.Fa.mkr "Source").ok K)) rfl)
  d_need_weights := c.def_ 16 (d := dfn "need_weights" (top 39)) rfl
  f_need_weights := He.glo_ok X G (c.fact 65 (p := (fun K => (He.Fa.glo "need_weights").ok K)) rfl)
  d_is_offer := c.def_ 17 (d := dfn "is_offer" (top 59)) rfl
  f_is_offer := He.glo_ok X G (c.fact 66 (p := (fun K => (He.Fa.glo "is_offer").ok K)) rfl)
  d_need_offers := c.def_ 18 (d := dfn "need_offers" (top 60)) rfl
  f_need_offers := He.glo_ok X G (c.fact 67 (p := (fun K => (He.Fa.glo "need_offers").ok K)) rfl)
  d_marked := c.def_ 19 (d := dfn "marked" (top 65)) rfl
  f_marked := He.glo_ok X G (c.fact 68 (p := (fun K => (He.Fa.glo "marked").ok K)) rfl)
  d_spread_of := c.def_ 20 (d := dfn "spread_of" (top 46)) rfl
  f_spread_of := He.glo_ok X G (c.fact 69 (p := (fun K => (He.Fa.glo "spread_of").ok K)) rfl)
  d_settled := c.def_ 21 (d := dfn "settled" (top 66)) rfl
  f_settled := He.glo_ok X G (c.fact 70 (p := (fun K => (He.Fa.glo "settled").ok K)) rfl)
  d_breach := c.def_ 22 (d := dfn "breach" (top 67)) rfl
  f_breach := He.glo_ok X G (c.fact 71 (p := (fun K => (He.Fa.glo "breach").ok K)) rfl)
  d_shows_breach := c.def_ 23 (d := dfn "shows_breach" (top 68)) rfl
  f_shows_breach := He.glo_ok X G (c.fact 72 (p := (fun K => (He.Fa.glo "shows_breach").ok K)) rfl)
  d_cheapest := c.def_ 24 (d := dfn "cheapest" (top 69)) rfl
  f_cheapest := He.glo_ok X G (c.fact 73 (p := (fun K => (He.Fa.glo "cheapest").ok K)) rfl)
  d_shows_cheapest := c.def_ 25 (d := dfn "shows_cheapest" (top 72)) rfl
  f_shows_cheapest := He.glo_ok X G (c.fact 74 (p := (fun K => (He.Fa.glo "shows_cheapest").ok K)) rfl)
  d_greatest_high := c.def_ 26 (d := dfn "greatest_high" (top 74)) rfl
  f_greatest_high := He.glo_ok X G (c.fact 75 (p := (fun K => (He.Fa.glo "greatest_high").ok K)) rfl)
  d__law_mixed := c.def_ 27 (d := dfn "_law_mixed" (top 76)) rfl
  f__law_mixed := He.glo_ok X G (c.fact 76 (p := (fun K => (He.Fa.glo "_law_mixed").ok K)) rfl)
  d__law_deck_of := c.def_ 28 (d := dfn "_law_deck_of" (top 77)) rfl
  f__law_deck_of := He.glo_ok X G (c.fact 77 (p := (fun K => (He.Fa.glo "_law_deck_of").ok K)) rfl)
  d__law_below := c.def_ 29 (d := dfn "_law_below" (top 78)) rfl
  f__law_below := He.glo_ok X G (c.fact 78 (p := (fun K => (He.Fa.glo "_law_below").ok K)) rfl)
  d__law_pick := c.def_ 30 (d := dfn "_law_pick" (top 79)) rfl
  f__law_pick := He.glo_ok X G (c.fact 79 (p := (fun K => (He.Fa.glo "_law_pick").ok K)) rfl)
  d__law_some_program := c.def_ 31 (d := dfn "_law_some_program" (top 80)) rfl
  f__law_some_program := He.glo_ok X G (c.fact 80 (p := (fun K => (He.Fa.glo "_law_some_program").ok K)) rfl)
  d__law_some_watcher := c.def_ 32 (d := dfn "_law_some_watcher" (top 81)) rfl
  f__law_some_watcher := He.glo_ok X G (c.fact 81 (p := (fun K => (He.Fa.glo "_law_some_watcher").ok K)) rfl)
  d__law_some_weights := c.def_ 33 (d := dfn "_law_some_weights" (top 82)) rfl
  f__law_some_weights := He.glo_ok X G (c.fact 82 (p := (fun K => (He.Fa.glo "_law_some_weights").ok K)) rfl)
  d__law_some_offers := c.def_ 34 (d := dfn "_law_some_offers" (top 83)) rfl
  f__law_some_offers := He.glo_ok X G (c.fact 83 (p := (fun K => (He.Fa.glo "_law_some_offers").ok K)) rfl)
  d__law_odd_weights := c.def_ 35 (d := dfn "_law_odd_weights" (top 84)) rfl
  f__law_odd_weights := He.glo_ok X G (c.fact 84 (p := (fun K => (He.Fa.glo "_law_odd_weights").ok K)) rfl)
  d__law_asked := c.def_ 36 (d := dfn "_law_asked" (top 85)) rfl
  f__law_asked := He.glo_ok X G (c.fact 85 (p := (fun K => (He.Fa.glo "_law_asked").ok K)) rfl)
  d__law_refusal := c.def_ 37 (d := dfn "_law_refusal" (top 86)) rfl
  f__law_refusal := He.glo_ok X G (c.fact 86 (p := (fun K => (He.Fa.glo "_law_refusal").ok K)) rfl)
  d__law_odd_offers := c.def_ 38 (d := dfn "_law_odd_offers" (top 87)) rfl
  f__law_odd_offers := He.glo_ok X G (c.fact 87 (p := (fun K => (He.Fa.glo "_law_odd_offers").ok K)) rfl)
  d_law := c.def_ 39 (d := dfn "law" (top 88)) rfl
  f_law := He.glo_ok X G (c.fact 88 (p := (fun K => (He.Fa.glo "law").ok K)) rfl)
end K55
set_option Elab.async false
set_option linter.all false
set_option maxRecDepth 100000
set_option maxHeartbeats 1000000
namespace LB
open PySem DM
def deckC (ns : List Int) (p a b : Int) : Cell := .lst [.lst (ns.map .int), .int p, .int a, .int b]
def s0 (ns : List Int) (p a b bound : Int) : S := ⟨[some (.val (.cel 0)), some (.val (.int bound)), none, none, none, none], [deckC ns p a b]⟩
theorem below_t (ns : List Int) (p a b bound : Int) : (mB (mOpE oLt (mOpN oIx 0 (DM.ret (.int 3))) 1)) (s0 ns p a b bound) = .ok (decide (b < bound)) (s0 ns p a b bound) := rfl
theorem below_rest (ns : List Int) (p a b bound : Int) (e2 e3 e4 : Option Slot) (hb : 0 < bound) (hz : bound.natAbs.log2 < 9000) :
    (mSeq (mSet 5 (mOpE oMod (mCallS oInt (mArgs (mCons (mOpN oIx 0 (DM.ret (.int 2))) mNil))) 1))
    (mSeq (mAsg (tSub 0 (DM.ret (.int 2))) (mOpE oFdiv (mOpN oIx 0 (DM.ret (.int 2))) 1))
    (mSeq (mAsg (tSub 0 (DM.ret (.int 3))) (mOpE oFdiv (mOpN oIx 0 (DM.ret (.int 3))) 1))
    (mRet (mVar 5))))) ⟨[some (.val (.cel 0)), some (.val (.int bound)), e2, e3, e4, none], [deckC ns p a b]⟩
    = .ok (.rt (.int (a % bound))) ⟨[some (.val (.cel 0)), some (.val (.int bound)), e2, e3, e4, some (.val (.int (a % bound)))], [deckC ns p (a / bound) (b / bound)]⟩ := by
  have m1 : oMod (.int a) (.int bound) = some (.int (a % bound)) := by
    show (if decide (0 < bound) = true then some (D.int (a % bound)) else none) = _
    rw [if_pos (decide_eq_true hb)]
  have d1 : ∀ x : Int, oFdiv (.int x) (.int bound) = some (.int (x / bound)) := fun x => by
    show (if (decide (0 < bound) && Nat.blt bound.natAbs.log2 9000) = true then some (D.int (x / bound)) else none) = _
    rw [if_pos (by rw [decide_eq_true hb, Bool.true_and]; exact Nat.ble_eq_true_of_le hz)]
  have s1 : mSet 5 (mOpE oMod (mCallS oInt (mArgs (mCons (mOpN oIx 0 (DM.ret (.int 2))) mNil))) 1) ⟨[some (.val (.cel 0)), some (.val (.int bound)), e2, e3, e4, none], [deckC ns p a b]⟩ = .ok .nx ⟨[some (.val (.cel 0)), some (.val (.int bound)), e2, e3, e4, some (.val (.int (a % bound)))], [deckC ns p a b]⟩ := by
    refine mSet_ok (s' := ⟨[some (.val (.cel 0)), some (.val (.int bound)), e2, e3, e4, none], [deckC ns p a b]⟩) ?_
    show fin (oMod (.int a) (.int bound)) _ = _
    rw [m1] <;> rfl
  rw [mSeq_nx s1]
  have s2 : mAsg (tSub 0 (DM.ret (.int 2))) (mOpE oFdiv (mOpN oIx 0 (DM.ret (.int 2))) 1) ⟨[some (.val (.cel 0)), some (.val (.int bound)), e2, e3, e4, some (.val (.int (a % bound)))], [deckC ns p a b]⟩ = .ok .nx ⟨[some (.val (.cel 0)), some (.val (.int bound)), e2, e3, e4, some (.val (.int (a % bound)))], [deckC ns p (a / bound) b]⟩ := by
    unfold mAsg
    rw [bnd_ok (a := .int (a / bound)) (s' := ⟨[some (.val (.cel 0)), some (.val (.int bound)), e2, e3, e4, some (.val (.int (a % bound)))], [deckC ns p a b]⟩) (by
      show fin (oFdiv (.int a) (.int bound)) _ = _
      rw [d1] <;> rfl)] <;> rfl
  rw [mSeq_nx s2]
  have s3 : mAsg (tSub 0 (DM.ret (.int 3))) (mOpE oFdiv (mOpN oIx 0 (DM.ret (.int 3))) 1) ⟨[some (.val (.cel 0)), some (.val (.int bound)), e2, e3, e4, some (.val (.int (a % bound)))], [deckC ns p (a / bound) b]⟩ = .ok .nx ⟨[some (.val (.cel 0)), some (.val (.int bound)), e2, e3, e4, some (.val (.int (a % bound)))], [deckC ns p (a / bound) (b / bound)]⟩ := by
    unfold mAsg
    rw [bnd_ok (a := .int (b / bound)) (s' := ⟨[some (.val (.cel 0)), some (.val (.int bound)), e2, e3, e4, some (.val (.int (a % bound)))], [deckC ns p (a / bound) b]⟩) (by
      show fin (oFdiv (.int b) (.int bound)) _ = _
      rw [d1] <;> rfl)] <;> rfl
  rw [mSeq_nx s3]
  rfl
abbrev prm : Int := 2305843009213693951
def fits (k : Nat) (i : Int) : Prop := i.natAbs < 2 ^ k
theorem fits_log {k : Nat} {i : Int} (h : fits k i) : i.natAbs.log2 ≤ k := by
  by_cases hz : i.natAbs = 0
  · rw [hz]; exact Nat.zero_le _
  · exact Nat.le_of_lt ((Nat.log2_lt hz).mpr h)
theorem mul_ok {j k : Nat} {a b : Int} (ha : fits j a) (hb : fits k b) (h : j + k < 1000000) : oMul (.int a) (.int b) = some (.int (a * b)) := by
  show (match (if Nat.blt (a.natAbs.log2 + b.natAbs.log2) 1000000 then some (D.int (a * b)) else none) with
    | some d => some d
    | none => none) = _
  have h1 := fits_log ha
  have h2 := fits_log hb
  have h3 : Nat.blt (a.natAbs.log2 + b.natAbs.log2) 1000000 = true := Nat.ble_eq_true_of_le (by omega)
  rw [if_pos h3]
theorem mod_ok {a b : Int} (hb : 0 < b) : oMod (.int a) (.int b) = some (.int (a % b)) := by
  show (if decide (0 < b) = true then some (D.int (a % b)) else none) = _
  rw [if_pos (decide_eq_true hb)]
theorem fdiv_ok {a b : Int} {k : Nat} (hb : 0 < b) (h : fits k b) (hk : k < 9000) : oFdiv (.int a) (.int b) = some (.int (a / b)) := by
  show (if (decide (0 < b) && Nat.blt b.natAbs.log2 9000) = true then some (D.int (a / b)) else none) = _
  have := fits_log h
  have h3 : Nat.blt b.natAbs.log2 9000 = true := Nat.ble_eq_true_of_le (by omega)
  rw [if_pos (by rw [decide_eq_true hb, h3] <;> rfl)]
def mixB : MS := mSet 3 (mOpE oMod (mCallS oInt (mArgs (mCons (mOpE oAdd (mOp oAdd (mOp oAdd (mOpB oMul 3 3) (mOpE oMul (DM.ret (.int 29)) 3)) (mOpE oMul (DM.ret (.int 4001)) 4)) 1) mNil))) 2)
def mixS (x lap f : Int) (e4 : Option Slot) (cells : List Cell) : S := ⟨[some (.val (.int x)), some (.val (.int lap)), some (.val (.int prm)), some (.val (.int f)), e4], cells⟩
theorem mix_step (x lap f i : Int) (cells : List Cell) (hf : fits 62 f) (hi : fits 10 i) : mixB (mixS x lap f (some (.val (.int i))) cells) = .ok .nx (mixS x lap ((f * f + 29 * f + 4001 * i + lap) % prm) (some (.val (.int i))) cells) := by
  have e1 : mOpB oMul 3 3 (mixS x lap f (some (.val (.int i))) cells) = .ok (.int (f * f)) (mixS x lap f (some (.val (.int i))) cells) := by
    show fin (oMul (.int f) (.int f)) _ = _
    rw [mul_ok hf hf (by decide)] <;> rfl
  have e2 : mOpE oMul (DM.ret (.int 29)) 3 (mixS x lap f (some (.val (.int i))) cells) = .ok (.int (29 * f)) (mixS x lap f (some (.val (.int i))) cells) := by
    show fin (oMul (.int 29) (.int f)) _ = _
    rw [mul_ok (j := 5) (by unfold fits; decide) hf (by decide)] <;> rfl
  have e3 : mOpE oMul (DM.ret (.int 4001)) 4 (mixS x lap f (some (.val (.int i))) cells) = .ok (.int (4001 * i)) (mixS x lap f (some (.val (.int i))) cells) := by
    show fin (oMul (.int 4001) (.int i)) _ = _
    rw [mul_ok (j := 12) (by unfold fits; decide) hi (by decide)] <;> rfl
  refine mSet_ok (s' := mixS x lap f (some (.val (.int i))) cells) ?_
  have e4 := mOp_ok (o := oAdd) (mOp_ok (o := oAdd) e1 e2 rfl) e3 rfl
  have e5 := mOpE_ok (o := oAdd) (j := 1) e4 rfl rfl
  exact mOpE_ok (mCallS_ok (mArgs_ok (mCons_nil e5)) rfl) rfl (mod_ok (by decide))
theorem prm_fits {z : Int} (h0 : 0 ≤ z) (h1 : z < prm) : fits 62 z := by
  unfold fits
  have e : (2 : Nat) ^ 62 = 4611686018427387904 := by decide
  rw [e]
  have : prm = 2305843009213693951 := rfl
  omega
theorem mod_prm (z : Int) : 0 ≤ z % prm ∧ z % prm < prm := ⟨Int.emod_nonneg _ (by decide), Int.emod_lt_of_pos _ (by decide)⟩
theorem mixed_ok {x lap : Int} (cells : List Cell) (hx : fits 30 x) (hl : fits 100000 lap) : ∃ r : Int, 0 ≤ r ∧ F__law_mixed [.int x, .int lap] cells = .ok (.int r) cells := by
  have s1 : mSet 2 (DM.ret (.int 2305843009213693951)) ⟨[some (.val (.int x)), some (.val (.int lap)), none, none, none], cells⟩ = .ok .nx ⟨[some (.val (.int x)), some (.val (.int lap)), some (.val (.int prm)), none, none], cells⟩ := rfl
  let t1 : S := ⟨[some (.val (.int x)), some (.val (.int lap)), some (.val (.int prm)), none, none], cells⟩
  have a1 : mOpN oMul 0 (DM.ret (.int 1181783497276652981)) t1 = .ok (.int (x * 1181783497276652981)) t1 := mOpN_ok rfl rfl rfl (mul_ok (k := 61) hx (by unfold fits; decide) (by decide))
  have a2 : mOpN oMul 1 (DM.ret (.int 2685821657736338717)) t1 = .ok (.int (lap * 2685821657736338717)) t1 := mOpN_ok rfl rfl rfl (mul_ok (k := 62) hl (by unfold fits; decide) (by decide))
  have a3 := mOp_ok (o := oAdd) (mOp_ok (o := oAdd) a1 a2 rfl) (show DM.ret (D.int 41) t1 = .ok (.int 41) t1 from rfl) rfl
  have s2 := mSet_ok (i := 3) (mOpE_ok (j := 2) (mCallS_ok (o := oInt) (mArgs_ok (mCons_nil a3)) rfl) rfl (mod_ok (b := prm) (by decide)))
  obtain ⟨h0, h1⟩ := mod_prm (x * 1181783497276652981 + lap * 2685821657736338717 + 41)
  obtain ⟨s3, hs3, f, e4, rfl, hf, hf0, _⟩ := forGo_all (f := tName 4) (body := mixB) (fun ds s => ∃ f e4, s = mixS x lap f e4 cells ∧ fits 62 f ∧ 0 ≤ f ∧ ∀ d ∈ ds, ∃ i, d = .int i ∧ fits 10 i)
    (fun d ds s h => by
      obtain ⟨f, e4, rfl, hf, hf0, hd⟩ := h
      obtain ⟨i, rfl, hi⟩ := hd d List.mem_cons_self
      obtain ⟨k0, k1⟩ := mod_prm (f * f + 29 * f + 4001 * i + lap)
      exact ⟨_, _, rfl, .inl (mix_step x lap f i cells hf hi), _, _, rfl, prm_fits k0 k1, k0, fun z hz => hd z (List.mem_cons_of_mem _ hz)⟩)
    [D.int 0, D.int 1, D.int 2, D.int 3] (mixS x lap ((x * 1181783497276652981 + lap * 2685821657736338717 + 41) % prm) none cells)
    ⟨_, _, rfl, prm_fits h0 h1, h0, fun d hd => by
      simp only [List.mem_cons, List.not_mem_nil, or_false] at hd
      rcases hd with rfl | rfl | rfl | rfl <;> exact ⟨_, rfl, by unfold fits; decide⟩⟩
  have s3' : mFor (mRng (mCons (DM.ret (.int 4)) mNil)) (tName 4) mixB (mixS x lap ((x * 1181783497276652981 + lap * 2685821657736338717 + 41) % prm) none cells) = .ok .nx (mixS x lap f e4 cells) := by
    have hm : mRng (mCons (DM.ret (D.int 4)) mNil) (mixS x lap ((x * 1181783497276652981 + lap * 2685821657736338717 + 41) % prm) none cells) = .ok [D.int 0, D.int 1, D.int 2, D.int 3] (mixS x lap ((x * 1181783497276652981 + lap * 2685821657736338717 + 41) % prm) none cells) := rfl
    exact (bnd_ok hm).trans hs3
  have b1 : mOpB oMul 3 2 (mixS x lap f e4 cells) = .ok (.int (f * prm)) (mixS x lap f e4 cells) := mOpB_ok rfl rfl (mul_ok (k := 62) hf (by unfold fits; decide) (by decide))
  have b2 : mOpN oMul 3 (DM.ret (.int 48271)) (mixS x lap f e4 cells) = .ok (.int (f * 48271)) (mixS x lap f e4 cells) := mOpN_ok rfl rfl rfl (mul_ok (k := 16) hf (by unfold fits; decide) (by decide))
  have b3 := mOpE_ok (o := oAdd) (j := 1) b2 rfl rfl
  have b4 := mOpE_ok (j := 2) (mCallS_ok (o := oInt) (mArgs_ok (mCons_nil b3)) rfl) rfl (mod_ok (b := prm) (by decide))
  have s4 := mRet_ok (mOp_ok (o := oAdd) b1 b4 rfl)
  refine ⟨f * prm + (f * 48271 + lap) % prm, ?_, ?_⟩
  · have := (mod_prm (f * 48271 + lap)).1
    have : 0 ≤ f * prm := Int.mul_nonneg hf0 (by decide)
    omega
  · exact runFn_rt (n := 5) (b := b__law_mixed) (ds := [.int x, .int lap]) (cells := cells) ((mSeq_nx s1).trans ((mSeq_nx s2).trans ((mSeq_nx s3').trans s4)))
def Sh (k : Nat) (d : D) : Prop := ∃ p, toPy d = some p ∧ PyData.canLay0 p = true ∧ PyData.depth p ≤ k
theorem Sh.shaped {k : Nat} {d : D} (h : Sh k d) (hk : k ≤ 64) : ∃ p, toPy d = some p ∧ SeqAt.shaped p = true := by
  obtain ⟨p, h1, h2, h3⟩ := h
  refine ⟨p, h1, ?_⟩
  unfold SeqAt.shaped
  rw [h2, decide_eq_true (Nat.le_trans h3 hk)] <;> rfl
theorem sh_all {k : Nat} : ∀ ds : List D, (∀ d ∈ ds, Sh k d) → ∃ ps, toPyL ds = some ps ∧ PyData.canLayAll0 ps = true ∧ PyData.depthAll ps ≤ k
  | [], _ => ⟨[], toPyL_nil, by simp only [PyData.canLayAll0], by simp only [PyData.depthAll]; exact Nat.zero_le _⟩
  | d :: ds, h => by
    obtain ⟨p, h1, h2, h3⟩ := h d List.mem_cons_self
    obtain ⟨ps, k1, k2, k3⟩ := sh_all ds fun z hz => h z (List.mem_cons_of_mem _ hz)
    refine ⟨p :: ps, ?_, ?_, ?_⟩
    · rw [toPyL_cons, h1, k1]
    · simp only [PyData.canLayAll0, h2, k2, Bool.and_self]
    · simp only [PyData.depthAll]
      exact Nat.max_le.mpr ⟨h3, k3⟩
theorem sh_int {k : Nat} (i : Int) : Sh k (.int i) := ⟨.int i, by simp only [toPy], by simp only [PyData.canLay0], by simp only [PyData.depth]; exact Nat.zero_le _⟩
theorem sh_lst {k : Nat} {ds : List D} (h : ∀ d ∈ ds, Sh k d) : Sh (k + 1) (.lst ds) := by
  obtain ⟨ps, k1, k2, k3⟩ := sh_all ds h
  exact ⟨.list ps, by rw [toPy_lst, k1] <;> rfl, by simp only [PyData.canLay0, k2], by simp only [PyData.depth]; omega⟩
theorem sh_tup {k : Nat} {ds : List D} (h : ∀ d ∈ ds, Sh k d) : Sh (k + 1) (.tup ds) := by
  obtain ⟨ps, k1, k2, k3⟩ := sh_all ds h
  exact ⟨.tuple ps, by rw [toPy_tup, k1] <;> rfl, by simp only [PyData.canLay0, k2], by simp only [PyData.depth]; omega⟩
structure DeckOk (n : Nat) (ns : List Int) (p a b : Int) : Prop where
  nn : ∀ z ∈ ns, 0 ≤ z
  p0 : 0 ≤ p
  pn : p + n ≤ 2 ^ 60
  a0 : 0 ≤ a
  b0 : 0 ≤ b
theorem toPyL_ints : ∀ ns : List Int, toPyL (ns.map D.int) = some (ns.map PyData.int)
  | [] => by simp only [List.map_nil, toPyL]
  | n :: ns => by rw [List.map_cons, toPyL_cons, toPyL_ints ns]; simp only [toPy, List.map_cons]
def Deck (n : Nat) (cells : List Cell) : Prop := ∃ ns p a b, cells = [deckC ns p a b] ∧ DeckOk n ns p a b
theorem Deck.le {m n : Nat} {cells : List Cell} (h : Deck n cells) (k : m ≤ n) : Deck m cells := by
  obtain ⟨ns, p, a, b, e, h⟩ := h
  exact ⟨ns, p, a, b, e, h.nn, h.p0, by have := h.pn; omega, h.a0, h.b0⟩
theorem ix_ok {ds : List D} {i : Nat} {d : D} (h : ds[i]? = some d) : oIx (.lst ds) (.int i) = some d ∧ oIx (.tup ds) (.int i) = some d := by
  have hi : i < ds.length := (List.getElem?_eq_some_iff.mp h).1
  have e : L2.atI ds (i : Int) = some d := by
    unfold L2.atI L2.ixN
    rw [if_pos (by omega), if_pos (by omega), show (i : Int).toNat = i by omega]
    exact h
  constructor
  · show (match (L2.atI ds (i : Int)) with | some d => some d | none => none) = some d
    rw [e]
  · show (match (L2.atI ds (i : Int)) with | some d => some d | none => none) = some d
    rw [e]
theorem eqD_nil (ns : List Int) : oEqD true (.lst (ns.map .int)) (.lst []) = some (.bl (!ns.isEmpty)) := by
  obtain ⟨p, h1, h2⟩ := (sh_lst (k := 1) (ds := ns.map .int) (fun d hd => by
    obtain ⟨i, _, rfl⟩ := List.mem_map.mp hd
    exact sh_int i)).shaped (by decide)
  have h3 : toPy (.lst (ns.map .int)) = some (.list (ns.map .int)) := by rw [toPy_lst, toPyL_ints] <;> rfl
  have h4 := h1.symm.trans h3
  cases h4
  have h5 : toPy (.lst []) = some (.list []) := by rw [toPy_lst, toPyL_nil] <;> rfl
  unfold oEqD
  rw [h3, h5]
  simp only [h2, show SeqAt.shaped (.list []) = true by rfl, Bool.and_self, if_true]
  cases ns with
  | nil => rfl
  | cons n ns => simp only [List.map_cons, PyData.eqv, PyData.eqvAll] <;> rfl
theorem amount_ok {n : Nat} {ns : List Int} {p a b bound : Int} (h : DeckOk n ns p a b) : ∃ v : Int, 0 ≤ v ∧
    (mSet 4 (mIf (mB (mOpN (oEqD true) 2 (mL (mLst mNil)))) (mOpN oIx 2 (mOp oMod (mCallS oInt (mLook 3)) (mCallS oLen (mLook 2)))) (ret (.int 0)))) ⟨[some (.val (.cel 0)), some (.val (.int bound)), some (.val (.lst (ns.map .int))), some (.val (.int p)), none, none], [deckC ns p a b]⟩
    = .ok .nx ⟨[some (.val (.cel 0)), some (.val (.int bound)), some (.val (.lst (ns.map .int))), some (.val (.int p)), some (.val (.int v)), none], [deckC ns p a b]⟩ := by
  let s : S := ⟨[some (.val (.cel 0)), some (.val (.int bound)), some (.val (.lst (ns.map .int))), some (.val (.int p)), none, none], [deckC ns p a b]⟩
  have t1 : mB (mOpN (oEqD true) 2 (mL (mLst mNil))) s = .ok (!ns.isEmpty) s := mB_ok (mOpN_ok rfl rfl rfl (eqD_nil ns))
  cases hn : ns with
  | nil =>
    subst hn
    refine ⟨0, by decide, mSet_ok (s' := s) ?_⟩
    rw [mIf_f t1] <;> rfl
  | cons z zs =>
    rw [← hn]
    have hlen : 0 < (ns.length : Int) := by rw [hn]; simp only [List.length_cons]; omega
    have hlt : (p % (ns.length : Int)).toNat < ns.length := by
      have h1 := Int.emod_lt_of_pos p hlen
      have h2 := Int.emod_nonneg p (show (ns.length : Int) ≠ 0 by omega)
      omega
    have hnn : ((p % (ns.length : Int)).toNat : Int) = p % (ns.length : Int) := Int.toNat_of_nonneg (Int.emod_nonneg p (by omega))
    refine ⟨ns[(p % (ns.length : Int)).toNat], h.nn _ (List.getElem_mem hlt), mSet_ok (s' := s) ?_⟩
    rw [mIf_t (by rw [t1, hn] <;> rfl)]
    refine mOpN_ok rfl (mOp_ok (o := oMod) (d := .int (p % (ns.length : Int))) (mCallS_ok (d := .int p) rfl rfl) (mCallS_ok (d := .int ns.length) rfl ?_) (mod_ok hlen)) rfl ?_
    · show oLen [.lst (ns.map .int)] = _
      show some (D.int ((ns.map D.int).length)) = _
      rw [List.length_map]
    · have := (ix_ok (ds := ns.map .int) (i := (p % (ns.length : Int)).toNat) (d := .int ns[(p % (ns.length : Int)).toNat]) (by rw [List.getElem?_map, List.getElem?_eq_getElem hlt] <;> rfl)).1
      rw [hnn] at this
      exact this
def refillB : MS := (mSeq (mPar 2 3 (mCons (mOpN oIx 0 (ret (.int 0))) (mCons (mOpN oIx 0 (ret (.int 1))) mNil)))
  (mSeq (mSet 4 (mIf (mB (mOpN (oEqD true) 2 (mL (mLst mNil)))) (mOpN oIx 2 (mOp oMod (mCallS oInt (mLook 3)) (mCallS oLen (mLook 2)))) (ret (.int 0))))
  (mSeq (mIfS (mOr (mB (mOpN oGe 3 (mCallS oLen (mLook 2)))) (mB (mOpN oLt 4 (mOp oPow (ret (.int 10)) (ret (.int 16)))))) (mSet 4 (mCall F__law_mixed (mCons (mOp oMod (mCallS oInt (mLook 4)) (ret (.int 998244353))) (mCons (mVar 3) mNil)))) mNext)
  (mSeq (mAsg (tSub 0 (ret (.int 1))) (mOpN oAdd 3 (ret (.int 1))))
  (mSeq (mAsg (tSub 0 (ret (.int 2))) (mVar 4))
  (mAsg (tSub 0 (ret (.int 3))) (mVar 4)))))))
theorem refill_ok {n : Nat} {ns : List Int} {p a b bound : Int} (h : DeckOk (n + 1) ns p a b) : ∃ v : Int, 0 ≤ v ∧ refillB ⟨[some (.val (.cel 0)), some (.val (.int bound)), none, none, none, none], [deckC ns p a b]⟩
    = .ok .nx ⟨[some (.val (.cel 0)), some (.val (.int bound)), some (.val (.lst (ns.map .int))), some (.val (.int p)), some (.val (.int v)), none], [deckC ns (p + 1) v v]⟩ := by
  obtain ⟨v0, h0, e0⟩ := amount_ok (bound := bound) h
  let s (v : Int) : S := ⟨[some (.val (.cel 0)), some (.val (.int bound)), some (.val (.lst (ns.map .int))), some (.val (.int p)), some (.val (.int v)), none], [deckC ns p a b]⟩
  have e1 : mPar 2 3 (mCons (mOpN oIx 0 (ret (.int 0))) (mCons (mOpN oIx 0 (ret (.int 1))) mNil)) ⟨[some (.val (.cel 0)), some (.val (.int bound)), none, none, none, none], [deckC ns p a b]⟩ = .ok .nx ⟨[some (.val (.cel 0)), some (.val (.int bound)), some (.val (.lst (ns.map .int))), some (.val (.int p)), none, none], [deckC ns p a b]⟩ := rfl
  have e2 : ∃ v : Int, 0 ≤ v ∧ mIfS (mOr (mB (mOpN oGe 3 (mCallS oLen (mLook 2)))) (mB (mOpN oLt 4 (mOp oPow (ret (.int 10)) (ret (.int 16)))))) (mSet 4 (mCall F__law_mixed (mCons (mOp oMod (mCallS oInt (mLook 4)) (ret (.int 998244353))) (mCons (mVar 3) mNil)))) mNext (s v0) = .ok .nx (s v) := by
    have t1 : mB (mOpN oGe 3 (mCallS oLen (mLook 2))) (s v0) = .ok (decide (((ns.map D.int).length : Int) ≤ p)) (s v0) := rfl
    have t2 : mB (mOpN oLt 4 (mOp oPow (ret (.int 10)) (ret (.int 16)))) (s v0) = .ok (decide (v0 < 10 ^ 16)) (s v0) := rfl
    have t3 : mOr (mB (mOpN oGe 3 (mCallS oLen (mLook 2)))) (mB (mOpN oLt 4 (mOp oPow (ret (.int 10)) (ret (.int 16))))) (s v0) = .ok (decide (((ns.map D.int).length : Int) ≤ p) || decide (v0 < 10 ^ 16)) (s v0) := by
      unfold mOr
      rw [bnd_ok t1]
      cases decide (((ns.map D.int).length : Int) ≤ p) with
      | true => rfl
      | false => exact t2
    cases hc : (decide (((ns.map D.int).length : Int) ≤ p) || decide (v0 < 10 ^ 16)) with
    | false => exact ⟨v0, h0, by rw [mIfS_f (by rw [t3, hc])] <;> rfl⟩
    | true =>
      have hx : fits 30 (v0 % 998244353) := by
        have h1 := Int.emod_lt_of_pos v0 (show (0 : Int) < 998244353 by decide)
        have h2 := Int.emod_nonneg v0 (show (998244353 : Int) ≠ 0 by decide)
        show _ < 1073741824
        omega
      have hp : fits 100000 p := by
        have h1 := h.p0
        have h2 := h.pn
        show p.natAbs < 2 ^ 100000
        have h3 : p.natAbs < 2 ^ 61 := by omega
        exact Nat.lt_of_lt_of_le h3 (Nat.pow_le_pow_right (by decide) (by decide))
      obtain ⟨v, hv, ev⟩ := mixed_ok [deckC ns p a b] hx hp
      refine ⟨v, hv, ?_⟩
      rw [mIfS_t (by rw [t3, hc])]
      exact mSet_ok (s' := s v0) (mCall_ok (s' := s v0) (mCons_ok (s1 := s v0) (mOp_ok (o := oMod) (d := .int (v0 % 998244353)) (s1 := s v0) (mCallS_ok (d := .int v0) rfl rfl) rfl (mod_ok (by decide))) rfl) ev)
  obtain ⟨v, hv, ev⟩ := e2
  exact ⟨v, hv, (mSeq_nx e1).trans ((mSeq_nx e0).trans ((mSeq_nx ev).trans rfl))⟩
theorem below_ok {n : Nat} {cells : List Cell} {bound : Int} (h : Deck (n + 1) cells) (h0 : 0 < bound) (h1 : bound < 2 ^ 60) : ∃ (r : Int) (cells' : List Cell), F__law_below [.cel 0, .int bound] cells = .ok (.int r) cells' ∧ 0 ≤ r ∧ r < bound ∧ Deck n cells' := by
  obtain ⟨ns, p, a, b, rfl, h⟩ := h
  have hz : bound.natAbs.log2 < 9000 := by
    have : bound.natAbs.log2 ≤ 60 := fits_log (k := 60) (by unfold fits; omega)
    omega
  have t := below_t ns p a b bound
  have dv : ∀ x : Int, 0 ≤ x → 0 ≤ x / bound := fun x hx => Int.ediv_nonneg hx (by omega)
  have md : ∀ x : Int, 0 ≤ x % bound ∧ x % bound < bound := fun x => ⟨Int.emod_nonneg _ (by omega), Int.emod_lt_of_pos _ h0⟩
  by_cases hb : b < bound
  · obtain ⟨v, hv, ev⟩ := refill_ok (bound := bound) h
    refine ⟨_, _, runFn_rt (n := 6) (b := b__law_below) (ds := [.cel 0, .int bound]) ((mSeq_nx ((mIfS_t (t.trans (congrArg (fun z => Res.ok z (s0 ns p a b bound)) (decide_eq_true hb)))).trans ev)).trans (below_rest ns (p + 1) v v bound _ _ _ h0 hz)), (md v).1, (md v).2, ns, p + 1, v / bound, v / bound, rfl, h.nn, ?_, ?_, dv v hv, dv v hv⟩
    · have := h.p0; omega
    · have := h.pn; omega
  · refine ⟨_, _, runFn_rt (n := 6) (b := b__law_below) (ds := [.cel 0, .int bound]) ((mSeq_nx ((mIfS_f (t.trans (congrArg (fun z => Res.ok z (s0 ns p a b bound)) (decide_eq_false hb)))).trans rfl)).trans (below_rest ns p a b bound _ _ _ h0 hz)), (md a).1, (md a).2, ns, p, a / bound, b / bound, rfl, h.nn, h.p0, ?_, dv a h.a0, dv b h.b0⟩
    have := h.pn; omega
end LB
set_option Elab.async false
set_option linter.all false
set_option maxRecDepth 100000
set_option maxHeartbeats 1000000
namespace LB
open PySem DM L2
theorem mem_insU {x y : Int} : ∀ {ys : List Int}, y ∈ insU x ys ↔ y = x ∨ y ∈ ys
  | [] => by simp [insU]
  | z :: zs => by
    unfold insU
    split
    · simp
    · split
      · rename_i h; subst h; simp
      · rw [List.mem_cons, mem_insU (ys := zs), List.mem_cons]
        exact or_left_comm
theorem mem_usort {y : Int} : ∀ {xs : List Int}, y ∈ usort xs ↔ y ∈ xs
  | [] => by simp [usort]
  | x :: xs => by simp only [usort, mem_insU, mem_usort (xs := xs), List.mem_cons]
theorem insU_up {x : Int} : ∀ {ys : List Int}, ys.Pairwise (· < ·) → (insU x ys).Pairwise (· < ·)
  | [], _ => by simp [insU]
  | z :: zs, h => by
    have h1 := List.pairwise_cons.mp h
    unfold insU
    split
    · rename_i hlt
      refine List.pairwise_cons.mpr ⟨fun a ha => ?_, h⟩
      rcases List.mem_cons.mp ha with rfl | ha
      · exact hlt
      · have := h1.1 a ha; omega
    · split
      · exact h
      · refine List.pairwise_cons.mpr ⟨fun a ha => ?_, insU_up h1.2⟩
        rcases mem_insU.mp ha with rfl | ha
        · omega
        · exact h1.1 a ha
theorem usort_up : ∀ xs : List Int, (usort xs).Pairwise (· < ·)
  | [] => List.Pairwise.nil
  | x :: xs => insU_up (usort_up xs)
theorem up_len : ∀ {xs : List Int} {a n : Int}, a ≤ n → (∀ x ∈ xs, a ≤ x ∧ x < n) → xs.Pairwise (· < ·) → (xs.length : Int) ≤ n - a
  | [], a, n, h, _, _ => by simp; omega
  | x :: xs, a, n, h, hb, hp => by
    have h1 := List.pairwise_cons.mp hp
    have hx := hb x List.mem_cons_self
    have := up_len (xs := xs) (a := x + 1) (n := n) (by omega) (fun y hy => ⟨by have := h1.1 y hy; omega, (hb y (List.mem_cons_of_mem _ hy)).2⟩) h1.2
    rw [List.length_cons]
    omega
def InR (n : Nat) (xs : List Int) : Prop := ∀ x ∈ xs, 0 ≤ x ∧ x < (n : Int)
theorem InR.nil {n : Nat} : InR n [] := fun x h => by cases h
theorem InR.app {n : Nat} {xs ys : List Int} (h : InR n xs) (k : InR n ys) : InR n (xs ++ ys) := fun x hx => (List.mem_append.mp hx).elim (h x) (k x)
theorem InR.filter {n : Nat} {xs : List Int} (h : InR n xs) (p : Int → Bool) : InR n (xs.filter p) := fun x hx => h x (List.mem_filter.mp hx).1
theorem InR.usort {n : Nat} {xs : List Int} (h : InR n xs) : InR n (usort xs) := fun x hx => h x (mem_usort.mp hx)
theorem InR.len {n : Nat} {xs : List Int} (h : InR n xs) (u : xs.Pairwise (· < ·)) : xs.length ≤ n := by
  have := up_len (a := 0) (n := n) (by omega) h u
  omega
theorem InR.ulen {n : Nat} {xs : List Int} (h : InR n xs) : (DM.usort xs).length ≤ n := h.usort.len (usort_up xs)
theorem dInts_map : ∀ xs : List Int, dInts (xs.map D.int) = some xs
  | [] => rfl
  | x :: xs => by
    show (dInts (xs.map D.int)).map (x :: ·) = _
    rw [dInts_map xs] <;> rfl
theorem sortedSet_ok {n : Nat} {xs : List Int} (h : InR n xs) (hn : n ≤ 8) (hl : xs.length < 4000) : fSortedSet [.lst (xs.map .int)] = some ((usort xs).map .int) ∧ fSortedSet [.tup (xs.map .int)] = some ((usort xs).map .int) := by
  have h1 : Nat.blt xs.length 4000 = true := Nat.ble_eq_true_of_le hl
  have h2 : Nat.blt (usort xs).length 64 = true := Nat.ble_eq_true_of_le (by have := h.ulen; omega)
  constructor
  · unfold fSortedSet ints?
    simp only [dInts_map, h1, h2, Bool.and_self, if_true]
  · unfold fSortedSet ints?
    simp only [dInts_map, h1, h2, Bool.and_self, if_true]
theorem dBools_map {α : Type} (g : α → Bool) : ∀ xs : List α, dBools (xs.map fun x => D.bl (g x)) = some (xs.map g)
  | [] => rfl
  | x :: xs => by
    show (dBools (xs.map fun x => D.bl (g x))).map (g x :: ·) = _
    rw [dBools_map g xs] <;> rfl
theorem oAll_map {α : Type} (g : α → Bool) (xs : List α) : oAll [.lst (xs.map fun x => D.bl (g x))] = some (.bl (xs.all g)) := by
  show (dBools (xs.map fun x => D.bl (g x))).map (fun bs => D.bl (bs.all id)) = _
  rw [dBools_map]
  simp [List.all_map, Function.comp_def]
theorem oAll_map2 {α β : Type} (e : α → β) (g : β → Bool) (xs : List α) : oAll [.lst ((xs.map e).map fun x => D.bl (g x))] = some (.bl (xs.all fun x => g (e x))) := by
  rw [oAll_map, List.all_map] <;> rfl
theorem small_le {ds : List D} (h : ds.length ≤ 1000000) : small ds = true := Nat.ble_eq_true_of_le h
theorem small_map {α : Type} {e : α → D} {xs : List α} (h : xs.length ≤ 1000000) : small (xs.map e) = true := small_le (by rw [List.length_map]; exact h)
theorem cutD_init (xs : List D) : cutD xs none (some (-1)) = xs.dropLast := by
  show (xs.drop 0).take ((if (-1 : Int) < 0 then ((-1 : Int) + (xs.length : Int)).toNat else min (-1 : Int).toNat xs.length) - 0) = _
  rw [List.drop_zero, if_pos (by decide), Nat.sub_zero, List.dropLast_eq_take]
  congr 1
  omega
theorem cutD_from (xs : List D) (k : Nat) : cutD xs (some (k : Int)) none = xs.drop k := by
  show (xs.drop (HT.sIx xs.length 0 (some (k : Int)))).take (xs.length - HT.sIx xs.length 0 (some (k : Int))) = _
  rw [HT.sIx_nat]
  by_cases h : k ≤ xs.length
  · rw [Nat.min_eq_left h]
    exact List.take_of_length_le (by rw [List.length_drop]; exact Nat.le_refl _)
  · rw [Nat.min_eq_right (by omega), List.drop_eq_nil_of_le (Nat.le_refl _), List.drop_eq_nil_of_le (by omega), List.take_nil]
theorem cutD_to (xs : List D) (k : Nat) : cutD xs none (some (k : Int)) = xs.take k := by
  show (xs.drop 0).take (HT.sIx xs.length xs.length (some (k : Int)) - 0) = _
  rw [HT.sIx_nat, List.drop_zero, Nat.sub_zero]
  by_cases h : k ≤ xs.length
  · rw [Nat.min_eq_left h]
  · rw [Nat.min_eq_right (by omega), List.take_of_length_le (Nat.le_refl _), List.take_of_length_le (by omega)]
def pairsUp (xs : List Int) : Bool := (xs.dropLast.zip (xs.drop 1)).all fun p => decide (p.1 < p.2)
theorem pairsUp_of : ∀ {xs : List Int}, xs.Pairwise (· < ·) → pairsUp xs = true
  | [], _ => rfl
  | [x], _ => rfl
  | x :: y :: r, h => by
    have h1 := List.pairwise_cons.mp h
    have h2 := pairsUp_of h1.2
    unfold pairsUp at h2 ⊢
    simp only [List.dropLast_cons₂, List.drop_succ_cons, List.drop_zero, List.zip_cons_cons, List.all_cons] at h2 ⊢
    rw [decide_eq_true (h1.1 y List.mem_cons_self), Bool.true_and]
    simpa using h2
theorem zip_map_int (xs ys : List Int) : (xs.map D.int).zip (ys.map D.int) = (xs.zip ys).map fun p => (D.int p.1, D.int p.2) := by
  induction xs generalizing ys with
  | nil => rfl
  | cons x xs ih =>
    cases ys with
    | nil => rfl
    | cons y ys => rw [List.map_cons, List.map_cons, List.zip_cons_cons, ih, List.zip_cons_cons, List.map_cons]
end LB
set_option Elab.async false
set_option linter.all false
set_option maxRecDepth 100000
set_option maxHeartbeats 1000000
namespace LB
open PySem DM
local macro_rules | `(tactic| array_get_dec) => `(tactic| with_reducible first
  | apply wp_seq
  | apply wp_mret
  | apply wp_set
  | apply wp_setO
  | apply wp_setV
  | apply wp_par
  | apply wp_parL
  | apply wp_parR
  | apply wp_self
  | (refine initK_nx (by with_unfolding_all rfl) ?_)
  | apply wp_expr
  | apply wp_asg
  | apply wp_next
  | apply wp_ret
  | apply wp_yes
  | apply endK_rt
  | apply endK_nx
  | apply seqK_rt
  | apply seqK_nx
  | (refine setK_in (by (simp only [List.set_cons_succ, List.set_cons_zero]; with_unfolding_all rfl)) ?_)
  | (refine setK2_in (by (simp only [List.set_cons_succ, List.set_cons_zero]; with_unfolding_all rfl)) ?_)
  | (refine putK_in (by with_unfolding_all rfl) (by (simp only [List.set_cons_succ, List.set_cons_zero]; with_unfolding_all rfl)) ?_)
  | (refine wp_var (by with_unfolding_all rfl) ?_)
  | (refine wp_varO (by with_unfolding_all rfl) (by (simp only [List.set_cons_succ, List.set_cons_zero]; with_unfolding_all rfl)) ?_)
  | apply wp_nil
  | apply wp_cons
  | apply wp_tup
  | apply wp_lst
  | apply wp_L
  | apply wp_opQ
  | (refine wp_opNQ (by with_unfolding_all rfl) ?_)
  | apply wp_opEQ
  | (refine wp_opBQ (by with_unfolding_all rfl) (by with_unfolding_all rfl) ?_)
  | (refine eqG_i (by with_unfolding_all rfl) (by with_unfolding_all rfl) ?_)
  | (refine neG_i (by with_unfolding_all rfl) (by with_unfolding_all rfl) ?_)
  | (refine eqG_of (by with_unfolding_all rfl) ?_)
  | apply wp_opA
  | (refine wp_opNA (by with_unfolding_all rfl) ?_)
  | apply wp_opEA
  | (refine wp_opBA (by with_unfolding_all rfl) (by with_unfolding_all rfl) ?_)
  | apply wp_opM
  | (refine wp_opNM (by with_unfolding_all rfl) ?_)
  | apply wp_opEM
  | (refine wp_opBM (by with_unfolding_all rfl) (by with_unfolding_all rfl) ?_)
  | apply wp_opT
  | (refine wp_opNT (by with_unfolding_all rfl) ?_)
  | apply wp_opET
  | (refine wp_opBT (by with_unfolding_all rfl) (by with_unfolding_all rfl) ?_)
  | apply wp_opF
  | (refine wp_opNF (by with_unfolding_all rfl) ?_)
  | apply wp_opEF
  | (refine wp_opBF (by with_unfolding_all rfl) (by with_unfolding_all rfl) ?_)
  | apply wp_opP
  | (refine wp_opNP (by with_unfolding_all rfl) ?_)
  | apply wp_opEP
  | (refine wp_opBP (by with_unfolding_all rfl) (by with_unfolding_all rfl) ?_)
  | (refine gAG_i (by with_unfolding_all rfl) (by with_unfolding_all rfl) ?_)
  | (refine gMG_i (by with_unfolding_all rfl) (by with_unfolding_all rfl) (by omega) ?_)
  | apply wp_op
  | (refine wp_opN (by with_unfolding_all rfl) ?_)
  | apply wp_opE
  | (refine wp_opB (by with_unfolding_all rfl) (by with_unfolding_all rfl) (by with_unfolding_all rfl) ?_)
  | apply wp_B
  | apply wp_not
  | apply wp_and
  | apply wp_or
  | apply wp_andV
  | apply wp_orV
  | apply wp_notV
  | apply wp_if
  | apply wp_ifS'
  | apply wp_chain
  | apply wp_args
  | (refine wp_look (by with_unfolding_all rfl) ?_)
  | apply wp_argF
  | apply wp_isa
  | apply wp_callS
  | apply wp_callF
  | apply wp_part
  | apply wp_neg
  | apply wp_sl
  | (refine wp_slN (by with_unfolding_all rfl) ?_)
  | (refine wp_mut (by with_unfolding_all rfl) ?_)
  | apply wp_fld
  | apply wp_call
  | apply wpC_in
  | apply wp_comp
  | (refine wpW_in (by (simp only [wipeE, List.set_cons_succ, List.set_cons_zero]; with_unfolding_all rfl)) ?_)
  | (refine backK_in (by (simp only [backE, List.getElem?_cons_zero, List.getElem?_cons_succ, List.set_cons_succ, List.set_cons_zero]; with_unfolding_all rfl)) ?_)
  | (refine wipeK_in (by (simp only [wipeE, List.set_cons_succ, List.set_cons_zero]; with_unfolding_all rfl)) ?_)
  | apply wp_rng
  | apply wp_items
  | apply wp_enum
  | apply wp_zip
  | apply wp_for
  | apply wp_lcOne
  | apply wp_lcIn
  | apply wpI_in
  | (refine wpU_name (by (simp only [List.set_cons_succ, List.set_cons_zero]; with_unfolding_all rfl)) ?_)
  | (refine wpU_tup (by with_unfolding_all rfl) ?_)
  | (refine wpU_tupL (by with_unfolding_all rfl) ?_)
  | apply wpU_cons
  | apply wpU_nil
  | (refine bltG (by with_unfolding_all rfl) ?_)
  | apply wp_raiseR
  | apply wp_raise1
  | (refine smallG (by with_unfolding_all rfl) ?_)
  | apply nn_t
  | apply nn_f
  | apply bb_t
  | apply bb_f
  | apply cc_t
  | apply cc_f
  | (refine and_dt (by first | omega | (simp only [List.length_cons, List.length_nil, List.length_map]; omega)) ?_)
  | (refine and_df (by first | omega | (simp only [List.length_cons, List.length_nil, List.length_map]; omega)) ?_)
  | (refine and_dct (by first | omega | (simp only [List.length_cons, List.length_nil, List.length_map]; omega)) ?_)
  | (refine and_dcf (by first | omega | (simp only [List.length_cons, List.length_nil, List.length_map]; omega)) ?_)
  | (refine and_nt (by first | omega | (simp only [List.length_cons, List.length_nil, List.length_map]; omega)) ?_)
  | (refine and_nf (by first | omega | (simp only [List.length_cons, List.length_nil, List.length_map]; omega)) ?_)
  | apply and_it
  | apply and_if
  | (refine nonD_t (by with_unfolding_all rfl) ?_)
  | (refine nonD_f (by with_unfolding_all rfl) ?_)
  | (refine nnonD_t (by with_unfolding_all rfl) ?_)
  | (refine nnonD_f (by with_unfolding_all rfl) ?_)
  | (refine isaG_t (by with_unfolding_all rfl) ?_)
  | (refine isaG_f (by with_unfolding_all rfl) ?_)
  | (refine Exists.intro _ (And.intro (by with_unfolding_all rfl) ?_))
  | (refine Exists.intro _ (Exists.intro _ (And.intro (by with_unfolding_all rfl) (And.intro (by with_unfolding_all rfl) ?_)))))
local macro_rules | `(tactic| array_mem_dec) => `(tactic| (refine wpF_run' rfl (by (simp only [frame]; rfl)) ?_))
def kindD (d : D) : Bool := isaXs.contains (tyD d)
def isIntD : D → Bool
  | .int _ => true
  | _ => false
theorem is_integer_run (d : D) (cells : List Cell) (h : kindD d = true) : F_is_integer [d] cells = .ok (.bl (isIntD d)) cells := by
  cases d <;> first | (simp only [kindD, tyD] at h; exact absurd h (by decide)) | rfl
theorem is_int_run (i : Int) (cells : List Cell) : F_is_integer [.int i] cells = .ok (.bl true) cells := is_integer_run (.int i) cells rfl
def isCountD : D → Bool
  | .int i => decide (0 ≤ i)
  | _ => false
theorem is_count_run (d : D) (cells : List Cell) (h : kindD d = true) : F_is_count [d] cells = .ok (.bl (isCountD d)) cells := by
  cases d <;> first | (simp only [kindD, tyD] at h; exact absurd h (by decide)) | rfl
theorem is_rising_run (xs : List Int) (cells : List Cell) (h : xs.length ≤ 1000000) : F_is_rising [.tup (xs.map .int)] cells = .ok (.bl (xs.all (fun x => decide (0 ≤ x)) && pairsUp xs)) cells := by
  refine wpF_eq ?_
  array_mem_dec
  unfold b_is_rising
  repeat array_get_dec
  refine wp_lcM D.int (fun x => .bl (decide (0 ≤ x))) ?_ ?_
  · intro i _
    repeat array_get_dec
    refine wpF_ok (is_count_run (.int i) _ rfl) ?_
    repeat array_get_dec
    exact ⟨rfl, rfl⟩
  · refine ⟨small_map h, ?_⟩
    repeat array_get_dec
    refine ⟨_, oAll_map _ _, ?_⟩
    repeat array_get_dec
    refine ⟨fun hb => ?_, fun hb => ?_⟩
    · repeat array_get_dec
      exact ⟨by rw [show (xs.all fun x => decide (0 ≤ x)) = false by simpa using hb] <;> rfl, rfl⟩
    · repeat array_get_dec
      unfold b_is_rising_1
      repeat array_get_dec
      have e1 : cutD (xs.map D.int) none (some (-1)) = xs.dropLast.map D.int := by rw [cutD_init, List.map_dropLast]
      have e2 : cutD (xs.map D.int) (some 1) none = (xs.drop 1).map D.int := by rw [show (1 : Int) = ((1 : Nat) : Int) from rfl, cutD_from, List.map_drop]
      rw [e1, e2]
      have e3 : zipL (xs.dropLast.map D.int) ((xs.drop 1).map D.int) = (xs.dropLast.zip (xs.drop 1)).map fun p => D.tup [.int p.1, .int p.2] := by
        unfold zipL
        rw [zip_map_int, List.map_map] <;> rfl
      rw [e3]
      refine wp_lcM (fun p : Int × Int => D.tup [.int p.1, .int p.2]) (fun p => .bl (decide (p.1 < p.2))) ?_ ?_
      · intro p _
        repeat array_get_dec
        exact ⟨rfl, rfl⟩
      · refine ⟨small_map (by simp only [List.length_zip, List.length_dropLast, List.length_drop]; omega), ?_⟩
        repeat array_get_dec
        refine ⟨_, oAll_map _ _, ?_⟩
        repeat array_get_dec
        exact ⟨by rw [show (xs.all fun x => decide (0 ≤ x)) = true by simpa using hb] <;> rfl, rfl⟩
theorem rising_of {n : Nat} {xs : List Int} (h : InR n xs) (u : xs.Pairwise (· < ·)) : (xs.all (fun x => decide (0 ≤ x)) && pairsUp xs) = true := by
  rw [pairsUp_of u, Bool.and_true, List.all_eq_true]
  exact fun x hx => decide_eq_true (h x hx).1
end LB
set_option Elab.async false
set_option linter.all false
set_option maxRecDepth 100000
set_option maxHeartbeats 1000000
namespace LB
open PySem DM
local macro_rules | `(tactic| array_get_dec) => `(tactic| with_reducible first
  | apply wp_seq
  | apply wp_mret
  | apply wp_set
  | apply wp_setO
  | apply wp_setV
  | apply wp_par
  | apply wp_parL
  | apply wp_parR
  | apply wp_self
  | (refine initK_nx (by with_unfolding_all rfl) ?_)
  | apply wp_expr
  | apply wp_asg
  | apply wp_next
  | apply wp_ret
  | apply wp_yes
  | apply endK_rt
  | apply endK_nx
  | apply seqK_rt
  | apply seqK_nx
  | (refine setK_in (by (simp only [List.set_cons_succ, List.set_cons_zero]; with_unfolding_all rfl)) ?_)
  | (refine setK2_in (by (simp only [List.set_cons_succ, List.set_cons_zero]; with_unfolding_all rfl)) ?_)
  | (refine putK_in (by with_unfolding_all rfl) (by (simp only [List.set_cons_succ, List.set_cons_zero]; with_unfolding_all rfl)) ?_)
  | (refine wp_var (by with_unfolding_all rfl) ?_)
  | (refine wp_varO (by with_unfolding_all rfl) (by (simp only [List.set_cons_succ, List.set_cons_zero]; with_unfolding_all rfl)) ?_)
  | apply wp_nil
  | apply wp_cons
  | apply wp_tup
  | apply wp_lst
  | apply wp_L
  | apply wp_opQ
  | (refine wp_opNQ (by with_unfolding_all rfl) ?_)
  | apply wp_opEQ
  | (refine wp_opBQ (by with_unfolding_all rfl) (by with_unfolding_all rfl) ?_)
  | (refine eqG_i (by with_unfolding_all rfl) (by with_unfolding_all rfl) ?_)
  | (refine neG_i (by with_unfolding_all rfl) (by with_unfolding_all rfl) ?_)
  | (refine eqG_of (by with_unfolding_all rfl) ?_)
  | apply wp_opA
  | (refine wp_opNA (by with_unfolding_all rfl) ?_)
  | apply wp_opEA
  | (refine wp_opBA (by with_unfolding_all rfl) (by with_unfolding_all rfl) ?_)
  | apply wp_opM
  | (refine wp_opNM (by with_unfolding_all rfl) ?_)
  | apply wp_opEM
  | (refine wp_opBM (by with_unfolding_all rfl) (by with_unfolding_all rfl) ?_)
  | apply wp_opT
  | (refine wp_opNT (by with_unfolding_all rfl) ?_)
  | apply wp_opET
  | (refine wp_opBT (by with_unfolding_all rfl) (by with_unfolding_all rfl) ?_)
  | apply wp_opF
  | (refine wp_opNF (by with_unfolding_all rfl) ?_)
  | apply wp_opEF
  | (refine wp_opBF (by with_unfolding_all rfl) (by with_unfolding_all rfl) ?_)
  | apply wp_opP
  | (refine wp_opNP (by with_unfolding_all rfl) ?_)
  | apply wp_opEP
  | (refine wp_opBP (by with_unfolding_all rfl) (by with_unfolding_all rfl) ?_)
  | (refine gAG_i (by with_unfolding_all rfl) (by with_unfolding_all rfl) ?_)
  | (refine gMG_i (by with_unfolding_all rfl) (by with_unfolding_all rfl) (by omega) ?_)
  | apply wp_op
  | (refine wp_opN (by with_unfolding_all rfl) ?_)
  | apply wp_opE
  | (refine wp_opB (by with_unfolding_all rfl) (by with_unfolding_all rfl) (by with_unfolding_all rfl) ?_)
  | apply wp_B
  | apply wp_not
  | apply wp_and
  | apply wp_or
  | apply wp_andV
  | apply wp_orV
  | apply wp_notV
  | apply wp_if
  | apply wp_ifS'
  | apply wp_chain
  | apply wp_args
  | (refine wp_look (by with_unfolding_all rfl) ?_)
  | apply wp_argF
  | apply wp_isa
  | apply wp_callS
  | apply wp_callF
  | apply wp_part
  | apply wp_neg
  | apply wp_sl
  | (refine wp_slN (by with_unfolding_all rfl) ?_)
  | (refine wp_mut (by with_unfolding_all rfl) ?_)
  | apply wp_fld
  | apply wp_call
  | apply wpC_in
  | apply wp_comp
  | (refine wpW_in (by (simp only [wipeE, List.set_cons_succ, List.set_cons_zero]; with_unfolding_all rfl)) ?_)
  | (refine backK_in (by (simp only [backE, List.getElem?_cons_zero, List.getElem?_cons_succ, List.set_cons_succ, List.set_cons_zero]; with_unfolding_all rfl)) ?_)
  | (refine wipeK_in (by (simp only [wipeE, List.set_cons_succ, List.set_cons_zero]; with_unfolding_all rfl)) ?_)
  | apply wp_rng
  | apply wp_items
  | apply wp_enum
  | apply wp_zip
  | apply wp_for
  | apply wp_lcOne
  | apply wp_lcIn
  | apply wpI_in
  | (refine wpU_name (by (simp only [List.set_cons_succ, List.set_cons_zero]; with_unfolding_all rfl)) ?_)
  | (refine wpU_tup (by with_unfolding_all rfl) ?_)
  | (refine wpU_tupL (by with_unfolding_all rfl) ?_)
  | apply wpU_cons
  | apply wpU_nil
  | (refine bltG (by with_unfolding_all rfl) ?_)
  | apply wp_raiseR
  | apply wp_raise1
  | (refine smallG (by with_unfolding_all rfl) ?_)
  | apply nn_t
  | apply nn_f
  | apply bb_t
  | apply bb_f
  | apply cc_t
  | apply cc_f
  | (refine and_dt (by first | omega | (simp only [List.length_cons, List.length_nil, List.length_map]; omega)) ?_)
  | (refine and_df (by first | omega | (simp only [List.length_cons, List.length_nil, List.length_map]; omega)) ?_)
  | (refine and_dct (by first | omega | (simp only [List.length_cons, List.length_nil, List.length_map]; omega)) ?_)
  | (refine and_dcf (by first | omega | (simp only [List.length_cons, List.length_nil, List.length_map]; omega)) ?_)
  | (refine and_nt (by first | omega | (simp only [List.length_cons, List.length_nil, List.length_map]; omega)) ?_)
  | (refine and_nf (by first | omega | (simp only [List.length_cons, List.length_nil, List.length_map]; omega)) ?_)
  | apply and_it
  | apply and_if
  | (refine nonD_t (by with_unfolding_all rfl) ?_)
  | (refine nonD_f (by with_unfolding_all rfl) ?_)
  | (refine nnonD_t (by with_unfolding_all rfl) ?_)
  | (refine nnonD_f (by with_unfolding_all rfl) ?_)
  | (refine isaG_t (by with_unfolding_all rfl) ?_)
  | (refine isaG_f (by with_unfolding_all rfl) ?_)
  | (refine Exists.intro _ (And.intro (by with_unfolding_all rfl) ?_))
  | (refine Exists.intro _ (Exists.intro _ (And.intro (by with_unfolding_all rfl) (And.intro (by with_unfolding_all rfl) ?_)))))
local macro_rules | `(tactic| array_mem_dec) => `(tactic| (refine wpF_run' rfl (by (simp only [frame]; rfl)) ?_))
def names4 : List Str := ["a", "b", "row12", "z9z9z9z9"]
theorem is_name_a (cells : List Cell) : F_is_name [.str "a"] cells = .ok (.bl true) cells := by rfl
theorem is_name_b (cells : List Cell) : F_is_name [.str "b"] cells = .ok (.bl true) cells := by rfl
theorem is_name_r (cells : List Cell) : F_is_name [.str "row12"] cells = .ok (.bl true) cells := by rfl
theorem is_name_z (cells : List Cell) : F_is_name [.str "z9z9z9z9"] cells = .ok (.bl true) cells := by rfl
theorem is_name_run {x : Str} (h : x ∈ names4) (cells : List Cell) : F_is_name [.str x] cells = .ok (.bl true) cells := by
  unfold names4 at h
  simp only [List.mem_cons, List.not_mem_nil, or_false] at h
  rcases h with rfl | rfl | rfl | rfl
  · exact is_name_a cells
  · exact is_name_b cells
  · exact is_name_r cells
  · exact is_name_z cells
end LB
set_option Elab.async false
set_option linter.all false
set_option maxRecDepth 100000
set_option maxHeartbeats 1000000
namespace LB
open PySem DM
local macro_rules | `(tactic| array_get_dec) => `(tactic| with_reducible first
  | apply wp_seq
  | apply wp_mret
  | apply wp_set
  | apply wp_setO
  | apply wp_setV
  | apply wp_par
  | apply wp_parL
  | apply wp_parR
  | apply wp_self
  | (refine initK_nx (by with_unfolding_all rfl) ?_)
  | apply wp_expr
  | apply wp_asg
  | apply wp_next
  | apply wp_ret
  | apply wp_yes
  | apply endK_rt
  | apply endK_nx
  | apply seqK_rt
  | apply seqK_nx
  | (refine setK_in (by (simp only [List.set_cons_succ, List.set_cons_zero]; with_unfolding_all rfl)) ?_)
  | (refine setK2_in (by (simp only [List.set_cons_succ, List.set_cons_zero]; with_unfolding_all rfl)) ?_)
  | (refine putK_in (by with_unfolding_all rfl) (by (simp only [List.set_cons_succ, List.set_cons_zero]; with_unfolding_all rfl)) ?_)
  | (refine wp_var (by with_unfolding_all rfl) ?_)
  | (refine wp_varO (by with_unfolding_all rfl) (by (simp only [List.set_cons_succ, List.set_cons_zero]; with_unfolding_all rfl)) ?_)
  | apply wp_nil
  | apply wp_cons
  | apply wp_tup
  | apply wp_lst
  | apply wp_L
  | apply wp_opQ
  | (refine wp_opNQ (by with_unfolding_all rfl) ?_)
  | apply wp_opEQ
  | (refine wp_opBQ (by with_unfolding_all rfl) (by with_unfolding_all rfl) ?_)
  | (refine eqG_i (by with_unfolding_all rfl) (by with_unfolding_all rfl) ?_)
  | (refine neG_i (by with_unfolding_all rfl) (by with_unfolding_all rfl) ?_)
  | (refine eqG_of (by with_unfolding_all rfl) ?_)
  | apply wp_opA
  | (refine wp_opNA (by with_unfolding_all rfl) ?_)
  | apply wp_opEA
  | (refine wp_opBA (by with_unfolding_all rfl) (by with_unfolding_all rfl) ?_)
  | apply wp_opM
  | (refine wp_opNM (by with_unfolding_all rfl) ?_)
  | apply wp_opEM
  | (refine wp_opBM (by with_unfolding_all rfl) (by with_unfolding_all rfl) ?_)
  | apply wp_opT
  | (refine wp_opNT (by with_unfolding_all rfl) ?_)
  | apply wp_opET
  | (refine wp_opBT (by with_unfolding_all rfl) (by with_unfolding_all rfl) ?_)
  | apply wp_opF
  | (refine wp_opNF (by with_unfolding_all rfl) ?_)
  | apply wp_opEF
  | (refine wp_opBF (by with_unfolding_all rfl) (by with_unfolding_all rfl) ?_)
  | apply wp_opP
  | (refine wp_opNP (by with_unfolding_all rfl) ?_)
  | apply wp_opEP
  | (refine wp_opBP (by with_unfolding_all rfl) (by with_unfolding_all rfl) ?_)
  | (refine gAG_i (by with_unfolding_all rfl) (by with_unfolding_all rfl) ?_)
  | (refine gMG_i (by with_unfolding_all rfl) (by with_unfolding_all rfl) (by omega) ?_)
  | apply wp_op
  | (refine wp_opN (by with_unfolding_all rfl) ?_)
  | apply wp_opE
  | (refine wp_opB (by with_unfolding_all rfl) (by with_unfolding_all rfl) (by with_unfolding_all rfl) ?_)
  | apply wp_B
  | apply wp_not
  | apply wp_and
  | apply wp_or
  | apply wp_andV
  | apply wp_orV
  | apply wp_notV
  | apply wp_if
  | apply wp_ifS'
  | apply wp_chain
  | apply wp_args
  | (refine wp_look (by with_unfolding_all rfl) ?_)
  | apply wp_argF
  | apply wp_isa
  | apply wp_callS
  | apply wp_callF
  | apply wp_part
  | apply wp_neg
  | apply wp_sl
  | (refine wp_slN (by with_unfolding_all rfl) ?_)
  | (refine wp_mut (by with_unfolding_all rfl) ?_)
  | apply wp_fld
  | apply wp_call
  | apply wpC_in
  | apply wp_comp
  | (refine wpW_in (by (simp only [wipeE, List.set_cons_succ, List.set_cons_zero]; with_unfolding_all rfl)) ?_)
  | (refine backK_in (by (simp only [backE, List.getElem?_cons_zero, List.getElem?_cons_succ, List.set_cons_succ, List.set_cons_zero]; with_unfolding_all rfl)) ?_)
  | (refine wipeK_in (by (simp only [wipeE, List.set_cons_succ, List.set_cons_zero]; with_unfolding_all rfl)) ?_)
  | apply wp_rng
  | apply wp_items
  | apply wp_enum
  | apply wp_zip
  | apply wp_for
  | apply wp_lcOne
  | apply wp_lcIn
  | apply wpI_in
  | (refine wpU_name (by (simp only [List.set_cons_succ, List.set_cons_zero]; with_unfolding_all rfl)) ?_)
  | (refine wpU_tup (by with_unfolding_all rfl) ?_)
  | (refine wpU_tupL (by with_unfolding_all rfl) ?_)
  | apply wpU_cons
  | apply wpU_nil
  | (refine bltG (by with_unfolding_all rfl) ?_)
  | apply wp_raiseR
  | apply wp_raise1
  | (refine smallG (by with_unfolding_all rfl) ?_)
  | apply nn_t
  | apply nn_f
  | apply bb_t
  | apply bb_f
  | apply cc_t
  | apply cc_f
  | (refine and_dt (by first | omega | (simp only [List.length_cons, List.length_nil, List.length_map]; omega)) ?_)
  | (refine and_df (by first | omega | (simp only [List.length_cons, List.length_nil, List.length_map]; omega)) ?_)
  | (refine and_dct (by first | omega | (simp only [List.length_cons, List.length_nil, List.length_map]; omega)) ?_)
  | (refine and_dcf (by first | omega | (simp only [List.length_cons, List.length_nil, List.length_map]; omega)) ?_)
  | (refine and_nt (by first | omega | (simp only [List.length_cons, List.length_nil, List.length_map]; omega)) ?_)
  | (refine and_nf (by first | omega | (simp only [List.length_cons, List.length_nil, List.length_map]; omega)) ?_)
  | apply and_it
  | apply and_if
  | (refine nonD_t (by with_unfolding_all rfl) ?_)
  | (refine nonD_f (by with_unfolding_all rfl) ?_)
  | (refine nnonD_t (by with_unfolding_all rfl) ?_)
  | (refine nnonD_f (by with_unfolding_all rfl) ?_)
  | (refine isaG_t (by with_unfolding_all rfl) ?_)
  | (refine isaG_f (by with_unfolding_all rfl) ?_)
  | (refine Exists.intro _ (And.intro (by with_unfolding_all rfl) ?_))
  | (refine Exists.intro _ (Exists.intro _ (And.intro (by with_unfolding_all rfl) (And.intro (by with_unfolding_all rfl) ?_)))))
local macro_rules | `(tactic| array_mem_dec) => `(tactic| (refine wpF_run' rfl (by (simp only [frame]; rfl)) ?_))
abbrev Prog := List (Str × List Int)
def dTup (xs : List Int) : D := .tup (xs.map .int)
def dPlace (p : Str × List Int) : D := .tup [.str p.1, dTup p.2]
def dProg (P : Prog) : D := .tup (P.map dPlace)
structure OkPl (n : Nat) (p : Str × List Int) : Prop where
  nm : p.1 ∈ names4
  rg : InR n p.2
  up : p.2.Pairwise (· < ·)
structure OkP (P : Prog) : Prop where
  lo : 1 ≤ P.length
  hi : P.length ≤ 8
  pl : ∀ p ∈ P, OkPl P.length p
theorem OkPl.len {n : Nat} {p : Str × List Int} (h : OkPl n p) : p.2.length ≤ n := h.rg.len h.up
theorem all_lt {n : Nat} {xs : List Int} (h : InR n xs) : (xs.all fun x => decide (x < (n : Int))) = true := List.all_eq_true.mpr fun x hx => decide_eq_true (h x hx).2
theorem is_place_run {n : Nat} {p : Str × List Int} (h : OkPl n p) (hn : n ≤ 8) (cells : List Cell) : F_is_place [dPlace p, .int n] cells = .ok (.bl true) cells := by
  have hl := h.len
  refine wpF_eq ?_
  array_mem_dec
  unfold b_is_place
  repeat array_get_dec
  refine wpF_ok (is_name_run h.nm _) ?_
  repeat array_get_dec
  refine wpF_ok (is_rising_run p.2 _ (by omega)) ?_
  rw [rising_of h.rg h.up]
  repeat array_get_dec
  unfold b_is_place_1
  repeat array_get_dec
  refine wp_lcM D.int (fun x => .bl (decide (x < (n : Int)))) ?_ ?_
  · intro i _
    repeat array_get_dec
    exact ⟨rfl, rfl⟩
  · refine ⟨small_map (by omega), ?_⟩
    repeat array_get_dec
    refine ⟨_, oAll_map _ _, ?_⟩
    repeat array_get_dec
    exact ⟨by rw [all_lt h.rg], rfl⟩
theorem is_program_run {P : Prog} (h : OkP P) (cells : List Cell) : F_is_program [dProg P] cells = .ok (.bl true) cells := by
  refine wpF_eq ?_
  array_mem_dec
  unfold b_is_program
  have h1 := h.lo
  have h2 := h.hi
  have h3 : (List.map dPlace P).length = P.length := List.length_map ..
  repeat array_get_dec
  unfold b_is_program_1
  repeat array_get_dec
  refine wp_lcM dPlace (fun _ => .bl true) ?_ ?_
  · intro p hp
    repeat array_get_dec
    rw [List.length_map]
    refine wpF_ok (is_place_run (h.pl p hp) h2 _) ?_
    repeat array_get_dec
    exact ⟨rfl, rfl⟩
  · refine ⟨small_map (by omega), ?_⟩
    repeat array_get_dec
    refine ⟨_, oAll_map (fun _ => true) _, ?_⟩
    repeat array_get_dec
    exact ⟨by rw [show (P.all fun _ => true) = true by simp], rfl⟩
structure Wat where
  gap : Int
  wide : Option Int
  low : Int
  high : Int
  marks : List Int
def dOpt : Option Int → D
  | none => .non
  | some i => .int i
def dWat (w : Wat) : D := .tup [.int w.gap, dOpt w.wide, .int w.low, .int w.high, dTup w.marks]
structure OkW (n : Nat) (w : Wat) : Prop where
  g1 : 1 ≤ w.gap
  g30 : w.gap ≤ 30
  wd : ∀ v, w.wide = some v → w.gap ≤ v ∧ v ≤ 30
  l0 : 0 ≤ w.low
  lh : w.low ≤ w.high
  h30 : w.high ≤ 30
  rg : InR n w.marks
  up : w.marks.Pairwise (· < ·)
theorem is_steps_run {i k : Int} (cells : List Cell) (h1 : k ≤ i) (h2 : i ≤ 30) : F_is_steps [.int i, .int k] cells = .ok (.bl true) cells := by
  refine wpF_eq ?_
  array_mem_dec
  unfold b_is_steps
  repeat array_get_dec
  refine wpF_ok (is_int_run i _) ?_
  repeat array_get_dec
  exact ⟨by rw [decide_eq_true h2], rfl⟩
theorem is_watcher_run {n : Nat} {w : Wat} (h : OkW n w) (hn : n ≤ 8) (cells : List Cell) : F_is_watcher [dWat w] cells = .ok (.bl true) cells := by
  obtain ⟨gap, wide, low, high, marks⟩ := w
  have hl := h.rg.len h.up
  refine wpF_eq ?_
  array_mem_dec
  unfold b_is_watcher
  repeat array_get_dec
  refine wpF_ok (is_steps_run _ h.g1 h.g30) ?_
  repeat array_get_dec
  refine wpF_ok (is_steps_run _ h.l0 (Int.le_trans h.lh h.h30)) ?_
  repeat array_get_dec
  unfold b_is_watcher_3
  repeat array_get_dec
  have rest : wp b_is_watcher_2 ⟨[some (Slot.val (dWat ⟨gap, wide, low, high, marks⟩)), none], cells⟩ (endK fun d' c' => d' = D.bl true ∧ c' = cells) (fun e s => NoE e s.cells) := by
    unfold b_is_watcher_2
    repeat array_get_dec
    refine wpF_ok (is_steps_run _ h.lh h.h30) ?_
    repeat array_get_dec
    refine wpF_ok (is_rising_run marks _ (by simpa using Nat.le_trans hl (by omega))) ?_
    rw [rising_of h.rg h.up]
    repeat array_get_dec
    unfold b_is_watcher_1
    repeat array_get_dec
    refine wp_lcM D.int (fun x => .bl (decide (x < 8))) ?_ ?_
    · intro i _
      repeat array_get_dec
      exact ⟨rfl, rfl⟩
    · refine ⟨small_map (by simpa using Nat.le_trans hl (by omega)), ?_⟩
      repeat array_get_dec
      refine ⟨_, oAll_map _ _, ?_⟩
      repeat array_get_dec
      exact ⟨by rw [show (marks.all fun x => decide (x < 8)) = true from List.all_eq_true.mpr fun x hx => decide_eq_true (by have := (h.rg x hx).2; omega)], rfl⟩
  cases wide with
  | none =>
    repeat array_get_dec
    exact rest
  | some v =>
    repeat array_get_dec
    obtain ⟨w1, w2⟩ := h.wd v rfl
    refine wpF_ok (is_steps_run _ w1 w2) ?_
    repeat array_get_dec
    exact rest
end LB
set_option Elab.async false
set_option linter.all false
set_option maxRecDepth 100000
set_option maxHeartbeats 1000000
namespace LB
open PySem DM
local macro_rules | `(tactic| array_get_dec) => `(tactic| with_reducible first
  | apply wp_seq
  | apply wp_mret
  | apply wp_set
  | apply wp_setO
  | apply wp_setV
  | apply wp_par
  | apply wp_parL
  | apply wp_parR
  | apply wp_self
  | (refine initK_nx (by with_unfolding_all rfl) ?_)
  | apply wp_expr
  | apply wp_asg
  | apply wp_next
  | apply wp_ret
  | apply wp_yes
  | apply endK_rt
  | apply endK_nx
  | apply seqK_rt
  | apply seqK_nx
  | (refine setK_in (by (simp only [List.set_cons_succ, List.set_cons_zero]; with_unfolding_all rfl)) ?_)
  | (refine setK2_in (by (simp only [List.set_cons_succ, List.set_cons_zero]; with_unfolding_all rfl)) ?_)
  | (refine putK_in (by with_unfolding_all rfl) (by (simp only [List.set_cons_succ, List.set_cons_zero]; with_unfolding_all rfl)) ?_)
  | (refine wp_var (by with_unfolding_all rfl) ?_)
  | (refine wp_varO (by with_unfolding_all rfl) (by (simp only [List.set_cons_succ, List.set_cons_zero]; with_unfolding_all rfl)) ?_)
  | apply wp_nil
  | apply wp_cons
  | apply wp_tup
  | apply wp_lst
  | apply wp_L
  | apply wp_opQ
  | (refine wp_opNQ (by with_unfolding_all rfl) ?_)
  | apply wp_opEQ
  | (refine wp_opBQ (by with_unfolding_all rfl) (by with_unfolding_all rfl) ?_)
  | (refine eqG_i (by with_unfolding_all rfl) (by with_unfolding_all rfl) ?_)
  | (refine neG_i (by with_unfolding_all rfl) (by with_unfolding_all rfl) ?_)
  | (refine eqG_of (by with_unfolding_all rfl) ?_)
  | apply wp_opA
  | (refine wp_opNA (by with_unfolding_all rfl) ?_)
  | apply wp_opEA
  | (refine wp_opBA (by with_unfolding_all rfl) (by with_unfolding_all rfl) ?_)
  | apply wp_opM
  | (refine wp_opNM (by with_unfolding_all rfl) ?_)
  | apply wp_opEM
  | (refine wp_opBM (by with_unfolding_all rfl) (by with_unfolding_all rfl) ?_)
  | apply wp_opT
  | (refine wp_opNT (by with_unfolding_all rfl) ?_)
  | apply wp_opET
  | (refine wp_opBT (by with_unfolding_all rfl) (by with_unfolding_all rfl) ?_)
  | apply wp_opF
  | (refine wp_opNF (by with_unfolding_all rfl) ?_)
  | apply wp_opEF
  | (refine wp_opBF (by with_unfolding_all rfl) (by with_unfolding_all rfl) ?_)
  | apply wp_opP
  | (refine wp_opNP (by with_unfolding_all rfl) ?_)
  | apply wp_opEP
  | (refine wp_opBP (by with_unfolding_all rfl) (by with_unfolding_all rfl) ?_)
  | (refine gAG_i (by with_unfolding_all rfl) (by with_unfolding_all rfl) ?_)
  | (refine gMG_i (by with_unfolding_all rfl) (by with_unfolding_all rfl) (by omega) ?_)
  | apply wp_op
  | (refine wp_opN (by with_unfolding_all rfl) ?_)
  | apply wp_opE
  | (refine wp_opB (by with_unfolding_all rfl) (by with_unfolding_all rfl) (by with_unfolding_all rfl) ?_)
  | apply wp_B
  | apply wp_not
  | apply wp_and
  | apply wp_or
  | apply wp_andV
  | apply wp_orV
  | apply wp_notV
  | apply wp_if
  | apply wp_ifS'
  | apply wp_chain
  | apply wp_args
  | (refine wp_look (by with_unfolding_all rfl) ?_)
  | apply wp_argF
  | apply wp_isa
  | apply wp_callS
  | apply wp_callF
  | apply wp_part
  | apply wp_neg
  | apply wp_sl
  | (refine wp_slN (by with_unfolding_all rfl) ?_)
  | (refine wp_mut (by with_unfolding_all rfl) ?_)
  | apply wp_fld
  | apply wp_call
  | apply wpC_in
  | apply wp_comp
  | (refine wpW_in (by (simp only [wipeE, List.set_cons_succ, List.set_cons_zero]; with_unfolding_all rfl)) ?_)
  | (refine backK_in (by (simp only [backE, List.getElem?_cons_zero, List.getElem?_cons_succ, List.set_cons_succ, List.set_cons_zero]; with_unfolding_all rfl)) ?_)
  | (refine wipeK_in (by (simp only [wipeE, List.set_cons_succ, List.set_cons_zero]; with_unfolding_all rfl)) ?_)
  | apply wp_rng
  | apply wp_items
  | apply wp_enum
  | apply wp_zip
  | apply wp_for
  | apply wp_lcOne
  | apply wp_lcIn
  | apply wpI_in
  | (refine wpU_name (by (simp only [List.set_cons_succ, List.set_cons_zero]; with_unfolding_all rfl)) ?_)
  | (refine wpU_tup (by with_unfolding_all rfl) ?_)
  | (refine wpU_tupL (by with_unfolding_all rfl) ?_)
  | apply wpU_cons
  | apply wpU_nil
  | (refine bltG (by with_unfolding_all rfl) ?_)
  | apply wp_raiseR
  | apply wp_raise1
  | (refine smallG (by with_unfolding_all rfl) ?_)
  | apply nn_t
  | apply nn_f
  | apply bb_t
  | apply bb_f
  | apply cc_t
  | apply cc_f
  | (refine and_dt (by first | omega | (simp only [List.length_cons, List.length_nil, List.length_map]; omega)) ?_)
  | (refine and_df (by first | omega | (simp only [List.length_cons, List.length_nil, List.length_map]; omega)) ?_)
  | (refine and_dct (by first | omega | (simp only [List.length_cons, List.length_nil, List.length_map]; omega)) ?_)
  | (refine and_dcf (by first | omega | (simp only [List.length_cons, List.length_nil, List.length_map]; omega)) ?_)
  | (refine and_nt (by first | omega | (simp only [List.length_cons, List.length_nil, List.length_map]; omega)) ?_)
  | (refine and_nf (by first | omega | (simp only [List.length_cons, List.length_nil, List.length_map]; omega)) ?_)
  | apply and_it
  | apply and_if
  | (refine nonD_t (by with_unfolding_all rfl) ?_)
  | (refine nonD_f (by with_unfolding_all rfl) ?_)
  | (refine nnonD_t (by with_unfolding_all rfl) ?_)
  | (refine nnonD_f (by with_unfolding_all rfl) ?_)
  | (refine isaG_t (by with_unfolding_all rfl) ?_)
  | (refine isaG_f (by with_unfolding_all rfl) ?_)
  | (refine Exists.intro _ (And.intro (by with_unfolding_all rfl) ?_))
  | (refine Exists.intro _ (Exists.intro _ (And.intro (by with_unfolding_all rfl) (And.intro (by with_unfolding_all rfl) ?_)))))
local macro_rules | `(tactic| array_mem_dec) => `(tactic| (refine wpF_run' rfl (by (simp only [frame]; rfl)) ?_))
def nextsOf (P : Prog) (i : Int) : List Int := match P[i.toNat]? with
  | some p => p.2
  | none => []
def afterOne (P : Prog) (xs : List Int) : List Int := usort (xs.map (nextsOf P)).flatten
theorem nexts_rg {P : Prog} (h : OkP P) (i : Int) : InR P.length (nextsOf P i) := by
  unfold nextsOf
  cases e : P[i.toNat]? with
  | none => exact InR.nil
  | some p => exact (h.pl p (List.mem_of_getElem? e)).rg
theorem nexts_len {P : Prog} (h : OkP P) (i : Int) : (nextsOf P i).length ≤ 8 := by
  unfold nextsOf
  cases e : P[i.toNat]? with
  | none => exact Nat.zero_le _
  | some p => exact Nat.le_trans (h.pl p (List.mem_of_getElem? e)).len h.hi
theorem flat_rg {P : Prog} (h : OkP P) : ∀ xs : List Int, InR P.length (xs.map (nextsOf P)).flatten
  | [] => InR.nil
  | x :: xs => by rw [List.map_cons, List.flatten_cons]; exact (nexts_rg h x).app (flat_rg h xs)
theorem flat_len {P : Prog} (h : OkP P) : ∀ xs : List Int, (xs.map (nextsOf P)).flatten.length ≤ 8 * xs.length
  | [] => Nat.le_refl _
  | x :: xs => by
    rw [List.map_cons, List.flatten_cons, List.length_append, List.length_cons]
    have := flat_len h xs
    have := nexts_len h x
    omega
theorem after_rg {P : Prog} (h : OkP P) (xs : List Int) : InR P.length (afterOne P xs) := (flat_rg h xs).usort
theorem after_len {P : Prog} (h : OkP P) (xs : List Int) : (afterOne P xs).length ≤ 8 := Nat.le_trans (flat_rg h xs).ulen h.hi
theorem place_at {P : Prog} {i : Int} (h0 : 0 ≤ i) (h1 : i < P.length) : ∃ p, P[i.toNat]? = some p ∧ oIx (dProg P) (.int i) = some (dPlace p) ∧ nextsOf P i = p.2 := by
  have hl : i.toNat < P.length := by omega
  refine ⟨P[i.toNat], List.getElem?_eq_getElem hl, ?_, ?_⟩
  · have := (ix_ok (ds := P.map dPlace) (i := i.toNat) (d := dPlace P[i.toNat]) (by rw [List.getElem?_map, List.getElem?_eq_getElem hl] <;> rfl)).2
    rw [Int.toNat_of_nonneg h0] at this
    exact this
  · unfold nextsOf
    rw [List.getElem?_eq_getElem hl]
theorem flat_map_D {α β : Type} (g : α → List β) (e : β → D) (xs : List α) : (xs.map fun x => (g x).map e).flatten = ((xs.map g).flatten).map e := by
  induction xs with
  | nil => rfl
  | cons x xs ih => rw [List.map_cons, List.flatten_cons, ih, List.map_cons, List.flatten_cons, List.map_append]
theorem after_one_run {P : Prog} (h : OkP P) {xs : List Int} (hx : InR P.length xs) (hl : xs.length ≤ 400) (d : D) (hd : itemsI d = some (xs.map .int)) (cells : List Cell) : F_after_one [dProg P, d] cells = .ok (dTup (afterOne P xs)) cells := by
  refine wpF_eq ?_
  array_mem_dec
  unfold b_after_one
  repeat array_get_dec
  refine ⟨_, hd, ?_⟩
  repeat array_get_dec
  refine wp_lcFM D.int (fun i => (nextsOf P i).map D.int) ?_ ?_
  · intro i hi
    obtain ⟨p, e1, e2, e3⟩ := place_at (hx i hi).1 (hx i hi).2
    repeat array_get_dec
    refine wp_opB rfl rfl e2 ?_
    repeat array_get_dec
    rw [e3]
    refine wp_lcM D.int D.int ?_ ?_
    · intro j _
      repeat array_get_dec
      exact ⟨rfl, rfl⟩
    · repeat array_get_dec
      exact ⟨rfl, rfl⟩
  · rw [flat_map_D]
    have hf := flat_len h xs
    refine ⟨small_map (by omega), ?_⟩
    repeat array_get_dec
    refine ⟨_, (sortedSet_ok (flat_rg h xs) h.hi (by omega)).1, ?_⟩
    repeat array_get_dec
    exact ⟨rfl, rfl⟩
end LB
set_option Elab.async false
set_option linter.all false
set_option maxRecDepth 100000
set_option maxHeartbeats 1000000
namespace LB
open PySem DM
local macro_rules | `(tactic| array_get_dec) => `(tactic| with_reducible first
  | apply wp_seq
  | apply wp_mret
  | apply wp_set
  | apply wp_setO
  | apply wp_setV
  | apply wp_par
  | apply wp_parL
  | apply wp_parR
  | apply wp_self
  | (refine initK_nx (by with_unfolding_all rfl) ?_)
  | apply wp_expr
  | apply wp_asg
  | apply wp_next
  | apply wp_ret
  | apply wp_yes
  | apply endK_rt
  | apply endK_nx
  | apply seqK_rt
  | apply seqK_nx
  | (refine setK_in (by (simp only [List.set_cons_succ, List.set_cons_zero]; with_unfolding_all rfl)) ?_)
  | (refine setK2_in (by (simp only [List.set_cons_succ, List.set_cons_zero]; with_unfolding_all rfl)) ?_)
  | (refine putK_in (by with_unfolding_all rfl) (by (simp only [List.set_cons_succ, List.set_cons_zero]; with_unfolding_all rfl)) ?_)
  | (refine wp_var (by with_unfolding_all rfl) ?_)
  | (refine wp_varO (by with_unfolding_all rfl) (by (simp only [List.set_cons_succ, List.set_cons_zero]; with_unfolding_all rfl)) ?_)
  | apply wp_nil
  | apply wp_cons
  | apply wp_tup
  | apply wp_lst
  | apply wp_L
  | apply wp_opQ
  | (refine wp_opNQ (by with_unfolding_all rfl) ?_)
  | apply wp_opEQ
  | (refine wp_opBQ (by with_unfolding_all rfl) (by with_unfolding_all rfl) ?_)
  | (refine eqG_i (by with_unfolding_all rfl) (by with_unfolding_all rfl) ?_)
  | (refine neG_i (by with_unfolding_all rfl) (by with_unfolding_all rfl) ?_)
  | (refine eqG_of (by with_unfolding_all rfl) ?_)
  | apply wp_opA
  | (refine wp_opNA (by with_unfolding_all rfl) ?_)
  | apply wp_opEA
  | (refine wp_opBA (by with_unfolding_all rfl) (by with_unfolding_all rfl) ?_)
  | apply wp_opM
  | (refine wp_opNM (by with_unfolding_all rfl) ?_)
  | apply wp_opEM
  | (refine wp_opBM (by with_unfolding_all rfl) (by with_unfolding_all rfl) ?_)
  | apply wp_opT
  | (refine wp_opNT (by with_unfolding_all rfl) ?_)
  | apply wp_opET
  | (refine wp_opBT (by with_unfolding_all rfl) (by with_unfolding_all rfl) ?_)
  | apply wp_opF
  | (refine wp_opNF (by with_unfolding_all rfl) ?_)
  | apply wp_opEF
  | (refine wp_opBF (by with_unfolding_all rfl) (by with_unfolding_all rfl) ?_)
  | apply wp_opP
  | (refine wp_opNP (by with_unfolding_all rfl) ?_)
  | apply wp_opEP
  | (refine wp_opBP (by with_unfolding_all rfl) (by with_unfolding_all rfl) ?_)
  | (refine gAG_i (by with_unfolding_all rfl) (by with_unfolding_all rfl) ?_)
  | (refine gMG_i (by with_unfolding_all rfl) (by with_unfolding_all rfl) (by omega) ?_)
  | apply wp_op
  | (refine wp_opN (by with_unfolding_all rfl) ?_)
  | apply wp_opE
  | (refine wp_opB (by with_unfolding_all rfl) (by with_unfolding_all rfl) (by with_unfolding_all rfl) ?_)
  | apply wp_B
  | apply wp_not
  | apply wp_and
  | apply wp_or
  | apply wp_andV
  | apply wp_orV
  | apply wp_notV
  | apply wp_if
  | apply wp_ifS'
  | apply wp_chain
  | apply wp_args
  | (refine wp_look (by with_unfolding_all rfl) ?_)
  | apply wp_argF
  | apply wp_isa
  | apply wp_callS
  | apply wp_callF
  | apply wp_part
  | apply wp_neg
  | apply wp_sl
  | (refine wp_slN (by with_unfolding_all rfl) ?_)
  | (refine wp_mut (by with_unfolding_all rfl) ?_)
  | apply wp_fld
  | apply wp_call
  | apply wpC_in
  | apply wp_comp
  | (refine wpW_in (by (simp only [wipeE, List.set_cons_succ, List.set_cons_zero]; with_unfolding_all rfl)) ?_)
  | (refine backK_in (by (simp only [backE, List.getElem?_cons_zero, List.getElem?_cons_succ, List.set_cons_succ, List.set_cons_zero]; with_unfolding_all rfl)) ?_)
  | (refine wipeK_in (by (simp only [wipeE, List.set_cons_succ, List.set_cons_zero]; with_unfolding_all rfl)) ?_)
  | apply wp_rng
  | apply wp_items
  | apply wp_enum
  | apply wp_zip
  | apply wp_for
  | apply wp_lcOne
  | apply wp_lcIn
  | apply wpI_in
  | (refine wpU_name (by (simp only [List.set_cons_succ, List.set_cons_zero]; with_unfolding_all rfl)) ?_)
  | (refine wpU_tup (by with_unfolding_all rfl) ?_)
  | (refine wpU_tupL (by with_unfolding_all rfl) ?_)
  | apply wpU_cons
  | apply wpU_nil
  | (refine bltG (by with_unfolding_all rfl) ?_)
  | apply wp_raiseR
  | apply wp_raise1
  | (refine smallG (by with_unfolding_all rfl) ?_)
  | apply nn_t
  | apply nn_f
  | apply bb_t
  | apply bb_f
  | apply cc_t
  | apply cc_f
  | (refine and_dt (by first | omega | (simp only [List.length_cons, List.length_nil, List.length_map]; omega)) ?_)
  | (refine and_df (by first | omega | (simp only [List.length_cons, List.length_nil, List.length_map]; omega)) ?_)
  | (refine and_dct (by first | omega | (simp only [List.length_cons, List.length_nil, List.length_map]; omega)) ?_)
  | (refine and_dcf (by first | omega | (simp only [List.length_cons, List.length_nil, List.length_map]; omega)) ?_)
  | (refine and_nt (by first | omega | (simp only [List.length_cons, List.length_nil, List.length_map]; omega)) ?_)
  | (refine and_nf (by first | omega | (simp only [List.length_cons, List.length_nil, List.length_map]; omega)) ?_)
  | apply and_it
  | apply and_if
  | (refine nonD_t (by with_unfolding_all rfl) ?_)
  | (refine nonD_f (by with_unfolding_all rfl) ?_)
  | (refine nnonD_t (by with_unfolding_all rfl) ?_)
  | (refine nnonD_f (by with_unfolding_all rfl) ?_)
  | (refine isaG_t (by with_unfolding_all rfl) ?_)
  | (refine isaG_f (by with_unfolding_all rfl) ?_)
  | (refine Exists.intro _ (And.intro (by with_unfolding_all rfl) ?_))
  | (refine Exists.intro _ (Exists.intro _ (And.intro (by with_unfolding_all rfl) (And.intro (by with_unfolding_all rfl) ?_)))))
local macro_rules | `(tactic| array_mem_dec) => `(tactic| (refine wpF_run' rfl (by (simp only [frame]; rfl)) ?_))
theorem addT_ok (xs ys : List Int) (h : xs.length + ys.length ≤ 1000000) : oAdd (dTup xs) (dTup ys) = some (dTup (xs ++ ys)) := by
  have h1 : small (xs.map D.int ++ ys.map D.int) = true := small_le (by rw [List.length_append, List.length_map, List.length_map]; exact h)
  unfold oAdd orO oAddI oI oAddS oAddL oAddT dTup
  simp only [h1, if_true, List.map_append]
theorem eq_tup0 (xs : List Int) : oEqD false (dTup xs) (.tup []) = some (.bl xs.isEmpty) := by
  obtain ⟨p, h1, h2⟩ := (sh_tup (k := 1) (ds := xs.map .int) (fun d hd => by
    obtain ⟨i, _, rfl⟩ := List.mem_map.mp hd
    exact sh_int i)).shaped (by decide)
  have h3 : toPy (dTup xs) = some (.tuple (xs.map .int)) := by
    show toPy (.tup _) = _
    rw [toPy_tup, toPyL_ints] <;> rfl
  have h4 := h1.symm.trans h3
  cases h4
  have h5 : toPy (.tup []) = some (.tuple []) := by rw [toPy_tup, toPyL_nil] <;> rfl
  unfold oEqD
  rw [h3, h5]
  simp only [h2, show SeqAt.shaped (.tuple []) = true by rfl, Bool.and_self, if_true]
  cases xs with
  | nil => rfl
  | cons n ns => simp only [List.map_cons, PyData.eqv, PyData.eqvAll] <;> rfl
theorem is_end_run {P : Prog} {i : Int} (h0 : 0 ≤ i) (h1 : i < P.length) (cells : List Cell) : F_is_end [dProg P, .int i] cells = .ok (.bl ((nextsOf P i).isEmpty)) cells := by
  obtain ⟨p, e1, e2, e3⟩ := place_at h0 h1
  refine wpF_eq ?_
  array_mem_dec
  unfold b_is_end
  repeat array_get_dec
  refine wp_opB rfl rfl e2 ?_
  repeat array_get_dec
  refine eqG_of (eq_tup0 p.2) ?_
  repeat array_get_dec
  exact ⟨by rw [e3], rfl⟩
def stepsGo (P : Prog) : Nat → List Int → List Int
  | 0, xs => xs
  | n + 1, xs => stepsGo P n (afterOne P xs)
def moreGo (P : Prog) : Nat → List Int → List Int → List Int
  | 0, _, f => f
  | n + 1, xs, f => moreGo P n (afterOne P xs) (f ++ afterOne P xs)
def afterMany (P : Prog) (xs : List Int) (st mo : Nat) : List Int := usort (moreGo P mo (stepsGo P st xs) (stepsGo P st xs))
theorem rng1 {n : Nat} (h : n < 1000) : rngI [.int n] = some ((List.range n).map fun (i : Nat) => D.int i) := by
  have : okR (n : Int) = true := by
    unfold okR
    rw [decide_eq_true (by omega), decide_eq_true (by omega)] <;> rfl
  unfold rngI
  simp only [this, if_true, Int.toNat_natCast, Int.zero_add]
theorem many_len {P : Prog} (h : OkP P) : ∀ (n : Nat) (xs : List Int), xs.length ≤ 8 → (stepsGo P n xs).length ≤ 8
  | 0, xs, hx => hx
  | n + 1, xs, _ => many_len h n _ (after_len h xs)
theorem steps_rg {P : Prog} (h : OkP P) : ∀ (n : Nat) (xs : List Int), InR P.length xs → InR P.length (stepsGo P n xs)
  | 0, xs, hx => hx
  | n + 1, xs, _ => steps_rg h n _ (after_rg h xs)
theorem more_rg {P : Prog} (h : OkP P) : ∀ (n : Nat) (xs f : List Int), InR P.length f → InR P.length (moreGo P n xs f)
  | 0, xs, f, hf => hf
  | n + 1, xs, f, hf => more_rg h n _ _ (hf.app (after_rg h xs))
theorem more_len {P : Prog} (h : OkP P) : ∀ (n : Nat) (xs f : List Int), (moreGo P n xs f).length ≤ f.length + 8 * n
  | 0, xs, f => Nat.le_refl _
  | n + 1, xs, f => by
    have := more_len h n (afterOne P xs) (f ++ afterOne P xs)
    rw [List.length_append] at this
    have := after_len h xs
    show (moreGo P n _ _).length ≤ _
    omega
theorem after_many_run {P : Prog} (h : OkP P) {xs : List Int} (hx : InR P.length xs) (hl : xs.length ≤ 8) {st mo : Nat} (hs : st ≤ 30) (hm : mo ≤ 30) (cells : List Cell) : F_after_many [dProg P, dTup xs, .int st, .int mo] cells = .ok (dTup (afterMany P xs st mo)) cells := by
  refine wpF_eq ?_
  array_mem_dec
  unfold b_after_many
  repeat array_get_dec
  refine ⟨_, rng1 (by omega), ?_⟩
  refine wp_forGo (fun rem s => ∃ n ys e4, rem.length = n ∧ stepsGo P n ys = stepsGo P st xs ∧ InR P.length ys ∧ ys.length ≤ 8 ∧ s = ⟨[some (.val (dProg P)), some (.val (dTup ys)), some (.val (.int st)), some (.val (.int mo)), e4, none], cells⟩) ?_ ?_ _ _ ⟨st, xs, none, by simp, rfl, hx, hl, rfl⟩
  · rintro d ds s ⟨n, ys, e4, hn, he, hy, hyl, rfl⟩
    repeat array_get_dec
    unfold b_after_many_1
    repeat array_get_dec
    refine wpF_ok (after_one_run h hy (by omega) _ rfl _) ?_
    repeat array_get_dec
    cases n with
    | zero => cases hn
    | succ n => exact ⟨n, _, _, by simpa using hn, he, after_rg h ys, after_len h ys, rfl⟩
  · rintro s ⟨n, ys, e4, hn, he, hy, hyl, rfl⟩
    have hn : n = 0 := hn.symm
    subst hn
    have he : ys = stepsGo P st xs := he
    subst he
    repeat array_get_dec
    unfold b_after_many_4
    repeat array_get_dec
    refine ⟨_, rng1 (by omega), ?_⟩
    have hrg := steps_rg h st xs hx
    have hlen := many_len h st xs hl
    refine wp_forGo (fun rem s => ∃ n zs f e4, rem.length = n ∧ moreGo P n zs f = moreGo P mo (stepsGo P st xs) (stepsGo P st xs) ∧ InR P.length zs ∧ zs.length ≤ 8 ∧ InR P.length f ∧ f.length + 8 * n ≤ 8 + 8 * mo ∧
      s = ⟨[some (.val (dProg P)), some (.val (dTup zs)), some (.val (.int st)), some (.val (.int mo)), e4, some (.val (dTup f))], cells⟩) ?_ ?_ _ _ ⟨mo, stepsGo P st xs, stepsGo P st xs, e4, by simp, rfl, hrg, hlen, hrg, by omega, rfl⟩
    · rintro d ds s ⟨n, zs, f, e5, hn, he, hz, hzl, hf, hfl, rfl⟩
      repeat array_get_dec
      unfold b_after_many_2
      repeat array_get_dec
      refine wpF_ok (after_one_run h hz (by omega) _ rfl _) ?_
      repeat array_get_dec
      have ha := after_len h zs
      cases n with
      | zero => cases hn
      | succ n =>
        have hn : ds.length = n := by simpa using hn
        refine gAG_of (addT_ok f (afterOne P zs) (by omega)) ?_
        repeat array_get_dec
        exact ⟨n, _, _, _, hn, he, after_rg h zs, ha, hf.app (after_rg h zs), by rw [List.length_append]; omega, rfl⟩
    · rintro s ⟨n, zs, f, e5, hn, he, hz, hzl, hf, hfl, rfl⟩
      have hn : n = 0 := hn.symm
      subst hn
      have he : f = moreGo P mo (stepsGo P st xs) (stepsGo P st xs) := he
      repeat array_get_dec
      unfold b_after_many_3
      repeat array_get_dec
      refine ⟨_, (sortedSet_ok hf h.hi (by omega)).2, ?_⟩
      repeat array_get_dec
      exact ⟨by rw [he]; rfl, rfl⟩
end LB
set_option Elab.async false
set_option linter.all false
set_option maxRecDepth 100000
set_option maxHeartbeats 1000000
namespace LB
open PySem DM
local macro_rules | `(tactic| array_get_dec) => `(tactic| with_reducible first
  | apply wp_seq
  | apply wp_mret
  | apply wp_set
  | apply wp_setO
  | apply wp_setV
  | apply wp_par
  | apply wp_parL
  | apply wp_parR
  | apply wp_self
  | (refine initK_nx (by with_unfolding_all rfl) ?_)
  | apply wp_expr
  | apply wp_asg
  | apply wp_next
  | apply wp_ret
  | apply wp_yes
  | apply endK_rt
  | apply endK_nx
  | apply seqK_rt
  | apply seqK_nx
  | (refine setK_in (by (simp only [List.set_cons_succ, List.set_cons_zero]; with_unfolding_all rfl)) ?_)
  | (refine setK2_in (by (simp only [List.set_cons_succ, List.set_cons_zero]; with_unfolding_all rfl)) ?_)
  | (refine putK_in (by with_unfolding_all rfl) (by (simp only [List.set_cons_succ, List.set_cons_zero]; with_unfolding_all rfl)) ?_)
  | (refine wp_var (by with_unfolding_all rfl) ?_)
  | (refine wp_varO (by with_unfolding_all rfl) (by (simp only [List.set_cons_succ, List.set_cons_zero]; with_unfolding_all rfl)) ?_)
  | apply wp_nil
  | apply wp_cons
  | apply wp_tup
  | apply wp_lst
  | apply wp_L
  | apply wp_opQ
  | (refine wp_opNQ (by with_unfolding_all rfl) ?_)
  | apply wp_opEQ
  | (refine wp_opBQ (by with_unfolding_all rfl) (by with_unfolding_all rfl) ?_)
  | (refine eqG_i (by with_unfolding_all rfl) (by with_unfolding_all rfl) ?_)
  | (refine neG_i (by with_unfolding_all rfl) (by with_unfolding_all rfl) ?_)
  | (refine eqG_of (by with_unfolding_all rfl) ?_)
  | apply wp_opA
  | (refine wp_opNA (by with_unfolding_all rfl) ?_)
  | apply wp_opEA
  | (refine wp_opBA (by with_unfolding_all rfl) (by with_unfolding_all rfl) ?_)
  | apply wp_opM
  | (refine wp_opNM (by with_unfolding_all rfl) ?_)
  | apply wp_opEM
  | (refine wp_opBM (by with_unfolding_all rfl) (by with_unfolding_all rfl) ?_)
  | apply wp_opT
  | (refine wp_opNT (by with_unfolding_all rfl) ?_)
  | apply wp_opET
  | (refine wp_opBT (by with_unfolding_all rfl) (by with_unfolding_all rfl) ?_)
  | apply wp_opF
  | (refine wp_opNF (by with_unfolding_all rfl) ?_)
  | apply wp_opEF
  | (refine wp_opBF (by with_unfolding_all rfl) (by with_unfolding_all rfl) ?_)
  | apply wp_opP
  | (refine wp_opNP (by with_unfolding_all rfl) ?_)
  | apply wp_opEP
  | (refine wp_opBP (by with_unfolding_all rfl) (by with_unfolding_all rfl) ?_)
  | (refine gAG_i (by with_unfolding_all rfl) (by with_unfolding_all rfl) ?_)
  | (refine gMG_i (by with_unfolding_all rfl) (by with_unfolding_all rfl) (by omega) ?_)
  | apply wp_op
  | (refine wp_opN (by with_unfolding_all rfl) ?_)
  | apply wp_opE
  | (refine wp_opB (by with_unfolding_all rfl) (by with_unfolding_all rfl) (by with_unfolding_all rfl) ?_)
  | apply wp_B
  | apply wp_not
  | apply wp_and
  | apply wp_or
  | apply wp_andV
  | apply wp_orV
  | apply wp_notV
  | apply wp_if
  | apply wp_ifS'
  | apply wp_chain
  | apply wp_args
  | (refine wp_look (by with_unfolding_all rfl) ?_)
  | apply wp_argF
  | apply wp_isa
  | apply wp_callS
  | apply wp_callF
  | apply wp_part
  | apply wp_neg
  | apply wp_sl
  | (refine wp_slN (by with_unfolding_all rfl) ?_)
  | (refine wp_mut (by with_unfolding_all rfl) ?_)
  | apply wp_fld
  | apply wp_call
  | apply wpC_in
  | apply wp_comp
  | (refine wpW_in (by (simp only [wipeE, List.set_cons_succ, List.set_cons_zero]; with_unfolding_all rfl)) ?_)
  | (refine backK_in (by (simp only [backE, List.getElem?_cons_zero, List.getElem?_cons_succ, List.set_cons_succ, List.set_cons_zero]; with_unfolding_all rfl)) ?_)
  | (refine wipeK_in (by (simp only [wipeE, List.set_cons_succ, List.set_cons_zero]; with_unfolding_all rfl)) ?_)
  | apply wp_rng
  | apply wp_items
  | apply wp_enum
  | apply wp_zip
  | apply wp_for
  | apply wp_lcOne
  | apply wp_lcIn
  | apply wpI_in
  | (refine wpU_name (by (simp only [List.set_cons_succ, List.set_cons_zero]; with_unfolding_all rfl)) ?_)
  | (refine wpU_tup (by with_unfolding_all rfl) ?_)
  | (refine wpU_tupL (by with_unfolding_all rfl) ?_)
  | apply wpU_cons
  | apply wpU_nil
  | (refine bltG (by with_unfolding_all rfl) ?_)
  | apply wp_raiseR
  | apply wp_raise1
  | (refine smallG (by with_unfolding_all rfl) ?_)
  | apply nn_t
  | apply nn_f
  | apply bb_t
  | apply bb_f
  | apply cc_t
  | apply cc_f
  | (refine and_dt (by first | omega | (simp only [List.length_cons, List.length_nil, List.length_map]; omega)) ?_)
  | (refine and_df (by first | omega | (simp only [List.length_cons, List.length_nil, List.length_map]; omega)) ?_)
  | (refine and_dct (by first | omega | (simp only [List.length_cons, List.length_nil, List.length_map]; omega)) ?_)
  | (refine and_dcf (by first | omega | (simp only [List.length_cons, List.length_nil, List.length_map]; omega)) ?_)
  | (refine and_nt (by first | omega | (simp only [List.length_cons, List.length_nil, List.length_map]; omega)) ?_)
  | (refine and_nf (by first | omega | (simp only [List.length_cons, List.length_nil, List.length_map]; omega)) ?_)
  | apply and_it
  | apply and_if
  | (refine nonD_t (by with_unfolding_all rfl) ?_)
  | (refine nonD_f (by with_unfolding_all rfl) ?_)
  | (refine nnonD_t (by with_unfolding_all rfl) ?_)
  | (refine nnonD_f (by with_unfolding_all rfl) ?_)
  | (refine isaG_t (by with_unfolding_all rfl) ?_)
  | (refine isaG_f (by with_unfolding_all rfl) ?_)
  | (refine Exists.intro _ (And.intro (by with_unfolding_all rfl) ?_))
  | (refine Exists.intro _ (Exists.intro _ (And.intro (by with_unfolding_all rfl) (And.intro (by with_unfolding_all rfl) ?_)))))
local macro_rules | `(tactic| array_mem_dec) => `(tactic| (refine wpF_run' rfl (by (simp only [frame]; rfl)) ?_))
theorem inV_ints (i : Int) : ∀ xs : List Int, L2.inV (.int i) ((xs.map D.int).map toV) = xs.contains i
  | [] => rfl
  | x :: xs => by
    have ih := inV_ints i xs
    unfold L2.inV at ih ⊢
    rw [List.map_cons, List.map_cons, List.any_cons, ih, List.contains_cons]
    show ((x == i) || _) = _
    rw [show (x == i) = (i == x) from by rw [Bool.eq_iff_iff]; simp only [beq_iff_eq]; exact eq_comm]
theorem flat_ints (xs : List Int) : (xs.map D.int).all flatD = true := by
  rw [List.all_map]
  exact List.all_eq_true.mpr fun _ _ => rfl
theorem in_ints (neg : Bool) (i : Int) (xs : List Int) : oIn neg (.int i) (dTup xs) = some (.bl (if neg then !xs.contains i else xs.contains i)) := by
  unfold oIn orO oInF dTup itemsD
  simp only [flat_ints, flatD, Bool.and_self, if_true, toV, inV_ints]
theorem in_intsL (neg : Bool) (i : Int) (xs : List Int) : oIn neg (.int i) (.lst (xs.map .int)) = some (.bl (if neg then !xs.contains i else xs.contains i)) := by
  unfold oIn orO oInF itemsD
  simp only [flat_ints, flatD, Bool.and_self, if_true, toV, inV_ints]
def stopB (P : Prog) (w : Wat) (i : Int) : Bool := w.marks.contains i || (nextsOf P i).isEmpty
def toldGo (P : Prog) (w : Wat) : Nat → Nat → List Int → List Int → List Int
  | 0, _, _, f => f
  | r + 1, k, here, f => toldGo P w r (k + 1) (afterOne P (here.filter fun i => !w.marks.contains i)) (f ++ (if w.low ≤ k then here else here.filter (stopB P w)))
def toldFrom (P : Prog) (w : Wat) (p : Int) : List Int := usort (toldGo P w (w.high + 1).toNat 0 [p] [])
theorem rng1' {n : Nat} (h : n < 900) : rngI [.int ((n : Int) + 1)] = some ((List.range' 0 (n + 1)).map fun (i : Nat) => D.int i) := by
  have e : (n : Int) + 1 = ((n + 1 : Nat) : Int) := by omega
  rw [e, rng1 (n := n + 1) (by omega), List.range_eq_range']
theorem told_rg {P : Prog} (h : OkP P) (w : Wat) : ∀ (r k : Nat) (here f : List Int), InR P.length here → InR P.length f → InR P.length (toldGo P w r k here f)
  | 0, _, _, _, _, hf => hf
  | r + 1, k, here, f, hh, hf => by
    refine told_rg h w r (k + 1) _ _ (after_rg h _) (hf.app ?_)
    by_cases c : w.low ≤ k
    · rw [if_pos c]; exact hh
    · rw [if_neg c]; exact hh.filter _
theorem addT0 (xs : List Int) (h : xs.length ≤ 1000000) : oAdd (.tup []) (dTup xs) = some (dTup xs) := addT_ok [] xs (by simpa using h)
theorem told_from_run {P : Prog} (h : OkP P) {w : Wat} (hw : OkW P.length w) {p : Int} (h0 : 0 ≤ p) (h1 : p < P.length) (cells : List Cell) : F_told_from [dProg P, dWat w, .int p] cells = .ok (dTup (toldFrom P w p)) cells := by
  obtain ⟨gap, wide, low, high, marks⟩ := w
  have hh0 : 0 ≤ high := Int.le_trans hw.l0 hw.lh
  have hh30 : high ≤ 30 := hw.h30
  obtain ⟨hi, rfl⟩ := Int.eq_ofNat_of_zero_le hh0
  refine wpF_eq ?_
  unfold dWat
  array_mem_dec
  unfold b_told_from
  repeat array_get_dec
  unfold b_told_from_6
  repeat array_get_dec
  unfold b_told_from_5
  repeat array_get_dec
  refine ⟨_, rng1' (by omega), ?_⟩
  refine wp_forGo (fun rem s => ∃ r k here f e10 e11, rem = (List.range' k r).map (fun (i : Nat) => D.int i) ∧ toldGo P ⟨gap, wide, low, hi, marks⟩ r k here f = toldGo P ⟨gap, wide, low, hi, marks⟩ (hi + 1) 0 [p] [] ∧ InR P.length here ∧ here.length ≤ 8 ∧ InR P.length f ∧ f.length + 8 * r ≤ 8 + 8 * hi ∧
    s = ⟨[some (.val (dProg P)), some (.val (dWat ⟨gap, wide, low, hi, marks⟩)), some (.val (.int p)), some (.val (.int gap)), some (.val (dOpt wide)), some (.val (.int low)), some (.val (.int hi)), some (.val (dTup marks)), some (.val (dTup f)), some (.val (dTup here)), e10, e11, none], cells⟩) ?_ ?_ _ _
    ⟨hi + 1, 0, [p], [], none, none, rfl, rfl, fun x hx => (by rw [List.mem_singleton.mp hx]; exact ⟨h0, h1⟩), (by simp), InR.nil, (by simp only [List.length_nil]; omega), rfl⟩
  · rintro d ds s ⟨r, k, here, f, e10, e11, hr, he, hh, hhl, hf, hfl, rfl⟩
    cases r with
    | zero => cases hr
    | succ r =>
      rw [List.range'_succ, List.map_cons] at hr
      obtain ⟨rfl, rfl⟩ := List.cons.inj hr
      repeat array_get_dec
      unfold b_told_from_3
      repeat array_get_dec
      have inst : ∀ i ∈ here, 0 ≤ i ∧ i < (P.length : Int) := hh
      refine wp_lcF D.int (stopB P ⟨gap, wide, low, hi, marks⟩) D.int ?_ ?_
      · intro i hi'
        repeat array_get_dec
        refine wp_opB rfl rfl (in_ints _ _ _) ?_
        repeat array_get_dec
        unfold stopB
        refine ⟨fun hc => ?_, fun hc => ?_⟩
        · rw [hc]
          repeat array_get_dec
          exact ⟨rfl, rfl⟩
        · rw [hc]
          repeat array_get_dec
          refine wpF_ok (is_end_run (inst i hi').1 (inst i hi').2 _) ?_
          repeat array_get_dec
          refine ⟨fun hd => ?_, fun hd => ?_⟩
          · rw [hd]
            repeat array_get_dec
            exact ⟨rfl, rfl⟩
          · rw [hd]
            repeat array_get_dec
            exact ⟨rfl, rfl⟩
      · have hfl' := List.length_filter_le (stopB P ⟨gap, wide, low, hi, marks⟩) here
        refine ⟨small_map (by omega), ?_⟩
        repeat array_get_dec
        unfold b_told_from_2
        repeat array_get_dec
        refine ⟨fun hc => ?_, fun hc => ?_⟩
        · repeat array_get_dec
          refine gAG_of (addT_ok f here (by omega)) ?_
          repeat array_get_dec
          unfold b_told_from_1
          repeat array_get_dec
          refine wp_lcF D.int (fun i => !marks.contains i) D.int ?_ ?_
          · intro i hi'
            repeat array_get_dec
            refine wp_opB rfl rfl (in_ints _ _ _) ?_
            repeat array_get_dec
            refine ⟨fun hd => ?_, fun hd => ?_⟩
            · rw [hd]
              repeat array_get_dec
              exact ⟨rfl, rfl⟩
            · rw [hd]
              repeat array_get_dec
              exact ⟨rfl, rfl⟩
          · have hl2 := List.length_filter_le (fun i => !marks.contains i) here
            refine ⟨small_map (by omega), ?_⟩
            repeat array_get_dec
            refine wpF_ok (after_one_run h (hh.filter _) (by omega) _ rfl _) ?_
            repeat array_get_dec
            refine ⟨r, k + 1, _, _, _, _, rfl, ?_, after_rg h _, after_len h _, hf.app ?_, ?_, rfl⟩
            · rw [← he]
              show toldGo P _ r (k + 1) _ _ = toldGo P _ r (k + 1) _ (f ++ (if low ≤ (k : Int) then here else here.filter _))
              rw [if_pos (of_decide_eq_true hc)]
            · exact hh
            · rw [List.length_append]; omega
        · repeat array_get_dec
          refine gAG_of (addT_ok f (here.filter (stopB P ⟨gap, wide, low, hi, marks⟩)) (by omega)) ?_
          repeat array_get_dec
          unfold b_told_from_1
          repeat array_get_dec
          refine wp_lcF D.int (fun i => !marks.contains i) D.int ?_ ?_
          · intro i hi'
            repeat array_get_dec
            refine wp_opB rfl rfl (in_ints _ _ _) ?_
            repeat array_get_dec
            refine ⟨fun hd => ?_, fun hd => ?_⟩
            · rw [hd]
              repeat array_get_dec
              exact ⟨rfl, rfl⟩
            · rw [hd]
              repeat array_get_dec
              exact ⟨rfl, rfl⟩
          · have hl2 := List.length_filter_le (fun i => !marks.contains i) here
            refine ⟨small_map (by omega), ?_⟩
            repeat array_get_dec
            refine wpF_ok (after_one_run h (hh.filter _) (by omega) _ rfl _) ?_
            repeat array_get_dec
            refine ⟨r, k + 1, _, _, _, _, rfl, ?_, after_rg h _, after_len h _, hf.app ?_, ?_, rfl⟩
            · rw [← he]
              show toldGo P _ r (k + 1) _ _ = toldGo P _ r (k + 1) _ (f ++ (if low ≤ (k : Int) then here else here.filter _))
              rw [if_neg (of_decide_eq_false hc)]
            · exact hh.filter _
            · rw [List.length_append]; omega
  · rintro s ⟨r, k, here, f, e10, e11, hr, he, hh, hhl, hf, hfl, rfl⟩
    have hr : r = 0 := by
      cases r with
      | zero => rfl
      | succ r => cases hr
    subst hr
    have he : f = toldGo P ⟨gap, wide, low, hi, marks⟩ (hi + 1) 0 [p] [] := he
    repeat array_get_dec
    unfold b_told_from_4
    repeat array_get_dec
    refine ⟨_, (sortedSet_ok hf h.hi (by omega)).2, ?_⟩
    repeat array_get_dec
    refine ⟨?_, rfl⟩
    unfold toldFrom
    rw [he]
    show dTup _ = dTup (usort (toldGo P _ ((hi : Int) + 1).toNat 0 [p] []))
    rw [show ((hi : Int) + 1).toNat = hi + 1 by omega]
def takenFrom (P : Prog) (w : Wat) (p : Int) : List Int := if p = -1 then afterMany P [0] 0 P.length else afterMany P [p] w.gap.toNat (match w.wide with
  | none => P.length
  | some v => (v - w.gap).toNat)
theorem taken_from_run {P : Prog} (h : OkP P) {w : Wat} (hw : OkW P.length w) {p : Int} (h0 : -1 ≤ p) (h1 : p < P.length) (cells : List Cell) : F_taken_from [dProg P, dWat w, .int p] cells = .ok (dTup (takenFrom P w p)) cells := by
  obtain ⟨gap, wide, low, high, marks⟩ := w
  have hlo := h.lo
  have hhi := h.hi
  have hg : 0 ≤ gap := Int.le_trans (by decide) hw.g1
  have hg30 : gap ≤ 30 := hw.g30
  obtain ⟨g, rfl⟩ := Int.eq_ofNat_of_zero_le hg
  have hlp : (List.map dPlace P).length = P.length := List.length_map ..
  refine wpF_eq ?_
  unfold dWat
  array_mem_dec
  unfold b_taken_from
  repeat array_get_dec
  have e : cutD [D.int (g : Int), dOpt wide, D.int low, D.int high, dTup marks] none (some 2) = [D.int (g : Int), dOpt wide] := cutD_to _ 2
  rw [e]
  repeat array_get_dec
  unfold b_taken_from_2
  repeat array_get_dec
  refine ⟨fun hc => ?_, fun hc => ?_⟩
  · have hc : p = -1 := of_decide_eq_true hc
    repeat array_get_dec
    rw [hlp]
    refine wpF_ok (after_many_run h (xs := [0]) (st := 0) (fun x hx => by rw [List.mem_singleton.mp hx]; omega) (by decide) (by decide) (by omega) _) ?_
    repeat array_get_dec
    exact ⟨by unfold takenFrom; rw [if_pos hc], rfl⟩
  · have hc : ¬p = -1 := of_decide_eq_false hc
    repeat array_get_dec
    unfold b_taken_from_1
    repeat array_get_dec
    cases wide with
    | none =>
      repeat array_get_dec
      rw [hlp]
      refine wpF_ok (after_many_run h (xs := [p]) (st := g) (fun x hx => by rw [List.mem_singleton.mp hx]; omega) (by simp) (by omega) (by omega) _) ?_
      repeat array_get_dec
      exact ⟨by unfold takenFrom; rw [if_neg hc]; rfl, rfl⟩
    | some v =>
      obtain ⟨w1, w2⟩ := hw.wd v rfl
      have w1 : (g : Int) ≤ v := w1
      obtain ⟨m, hm⟩ := Int.eq_ofNat_of_zero_le (show 0 ≤ v - (g : Int) by omega)
      repeat array_get_dec
      rw [hm]
      refine wpF_ok (after_many_run h (xs := [p]) (st := g) (mo := m) (fun x hx => by rw [List.mem_singleton.mp hx]; omega) (by simp) (by omega) (by omega) _) ?_
      repeat array_get_dec
      refine ⟨?_, rfl⟩
      unfold takenFrom
      rw [if_neg hc]
      show _ = dTup (afterMany P [p] ((g : Int)).toNat (v - (g : Int)).toNat)
      rw [hm]
      rfl
end LB
set_option Elab.async false
set_option linter.all false
set_option maxRecDepth 100000
set_option maxHeartbeats 1000000
namespace LB
open PySem DM
local macro_rules | `(tactic| array_get_dec) => `(tactic| with_reducible first
  | apply wp_seq
  | apply wp_mret
  | apply wp_set
  | apply wp_setO
  | apply wp_setV
  | apply wp_par
  | apply wp_parL
  | apply wp_parR
  | apply wp_self
  | (refine initK_nx (by with_unfolding_all rfl) ?_)
  | apply wp_expr
  | apply wp_asg
  | apply wp_next
  | apply wp_ret
  | apply wp_yes
  | apply endK_rt
  | apply endK_nx
  | apply seqK_rt
  | apply seqK_nx
  | (refine setK_in (by (simp only [List.set_cons_succ, List.set_cons_zero]; with_unfolding_all rfl)) ?_)
  | (refine setK2_in (by (simp only [List.set_cons_succ, List.set_cons_zero]; with_unfolding_all rfl)) ?_)
  | (refine putK_in (by with_unfolding_all rfl) (by (simp only [List.set_cons_succ, List.set_cons_zero]; with_unfolding_all rfl)) ?_)
  | (refine wp_var (by with_unfolding_all rfl) ?_)
  | (refine wp_varO (by with_unfolding_all rfl) (by (simp only [List.set_cons_succ, List.set_cons_zero]; with_unfolding_all rfl)) ?_)
  | apply wp_nil
  | apply wp_cons
  | apply wp_tup
  | apply wp_lst
  | apply wp_L
  | apply wp_opQ
  | (refine wp_opNQ (by with_unfolding_all rfl) ?_)
  | apply wp_opEQ
  | (refine wp_opBQ (by with_unfolding_all rfl) (by with_unfolding_all rfl) ?_)
  | (refine eqG_i (by with_unfolding_all rfl) (by with_unfolding_all rfl) ?_)
  | (refine neG_i (by with_unfolding_all rfl) (by with_unfolding_all rfl) ?_)
  | (refine eqG_of (by with_unfolding_all rfl) ?_)
  | apply wp_opA
  | (refine wp_opNA (by with_unfolding_all rfl) ?_)
  | apply wp_opEA
  | (refine wp_opBA (by with_unfolding_all rfl) (by with_unfolding_all rfl) ?_)
  | apply wp_opM
  | (refine wp_opNM (by with_unfolding_all rfl) ?_)
  | apply wp_opEM
  | (refine wp_opBM (by with_unfolding_all rfl) (by with_unfolding_all rfl) ?_)
  | apply wp_opT
  | (refine wp_opNT (by with_unfolding_all rfl) ?_)
  | apply wp_opET
  | (refine wp_opBT (by with_unfolding_all rfl) (by with_unfolding_all rfl) ?_)
  | apply wp_opF
  | (refine wp_opNF (by with_unfolding_all rfl) ?_)
  | apply wp_opEF
  | (refine wp_opBF (by with_unfolding_all rfl) (by with_unfolding_all rfl) ?_)
  | apply wp_opP
  | (refine wp_opNP (by with_unfolding_all rfl) ?_)
  | apply wp_opEP
  | (refine wp_opBP (by with_unfolding_all rfl) (by with_unfolding_all rfl) ?_)
  | (refine gAG_i (by with_unfolding_all rfl) (by with_unfolding_all rfl) ?_)
  | (refine gMG_i (by with_unfolding_all rfl) (by with_unfolding_all rfl) (by omega) ?_)
  | apply wp_op
  | (refine wp_opN (by with_unfolding_all rfl) ?_)
  | apply wp_opE
  | (refine wp_opB (by with_unfolding_all rfl) (by with_unfolding_all rfl) (by with_unfolding_all rfl) ?_)
  | apply wp_B
  | apply wp_not
  | apply wp_and
  | apply wp_or
  | apply wp_andV
  | apply wp_orV
  | apply wp_notV
  | apply wp_if
  | apply wp_ifS'
  | apply wp_chain
  | apply wp_args
  | (refine wp_look (by with_unfolding_all rfl) ?_)
  | apply wp_argF
  | apply wp_isa
  | apply wp_callS
  | apply wp_callF
  | apply wp_part
  | apply wp_neg
  | apply wp_sl
  | (refine wp_slN (by with_unfolding_all rfl) ?_)
  | (refine wp_mut (by with_unfolding_all rfl) ?_)
  | apply wp_fld
  | apply wp_call
  | apply wpC_in
  | apply wp_comp
  | (refine wpW_in (by (simp only [wipeE, List.set_cons_succ, List.set_cons_zero]; with_unfolding_all rfl)) ?_)
  | (refine backK_in (by (simp only [backE, List.getElem?_cons_zero, List.getElem?_cons_succ, List.set_cons_succ, List.set_cons_zero]; with_unfolding_all rfl)) ?_)
  | (refine wipeK_in (by (simp only [wipeE, List.set_cons_succ, List.set_cons_zero]; with_unfolding_all rfl)) ?_)
  | apply wp_rng
  | apply wp_items
  | apply wp_enum
  | apply wp_zip
  | apply wp_for
  | apply wp_lcOne
  | apply wp_lcIn
  | apply wpI_in
  | (refine wpU_name (by (simp only [List.set_cons_succ, List.set_cons_zero]; with_unfolding_all rfl)) ?_)
  | (refine wpU_tup (by with_unfolding_all rfl) ?_)
  | (refine wpU_tupL (by with_unfolding_all rfl) ?_)
  | apply wpU_cons
  | apply wpU_nil
  | (refine bltG (by with_unfolding_all rfl) ?_)
  | apply wp_raiseR
  | apply wp_raise1
  | (refine smallG (by with_unfolding_all rfl) ?_)
  | apply nn_t
  | apply nn_f
  | apply bb_t
  | apply bb_f
  | apply cc_t
  | apply cc_f
  | (refine and_dt (by first | omega | (simp only [List.length_cons, List.length_nil, List.length_map]; omega)) ?_)
  | (refine and_df (by first | omega | (simp only [List.length_cons, List.length_nil, List.length_map]; omega)) ?_)
  | (refine and_dct (by first | omega | (simp only [List.length_cons, List.length_nil, List.length_map]; omega)) ?_)
  | (refine and_dcf (by first | omega | (simp only [List.length_cons, List.length_nil, List.length_map]; omega)) ?_)
  | (refine and_nt (by first | omega | (simp only [List.length_cons, List.length_nil, List.length_map]; omega)) ?_)
  | (refine and_nf (by first | omega | (simp only [List.length_cons, List.length_nil, List.length_map]; omega)) ?_)
  | apply and_it
  | apply and_if
  | (refine nonD_t (by with_unfolding_all rfl) ?_)
  | (refine nonD_f (by with_unfolding_all rfl) ?_)
  | (refine nnonD_t (by with_unfolding_all rfl) ?_)
  | (refine nnonD_f (by with_unfolding_all rfl) ?_)
  | (refine isaG_t (by with_unfolding_all rfl) ?_)
  | (refine isaG_f (by with_unfolding_all rfl) ?_)
  | (refine Exists.intro _ (And.intro (by with_unfolding_all rfl) ?_))
  | (refine Exists.intro _ (Exists.intro _ (And.intro (by with_unfolding_all rfl) (And.intro (by with_unfolding_all rfl) ?_)))))
local macro_rules | `(tactic| array_mem_dec) => `(tactic| (refine wpF_run' rfl (by (simp only [frame]; rfl)) ?_))
abbrev Tri := Int × Int × Int
def dTri (t : Tri) : D := .tup [.int t.1, .int t.2.1, .int t.2.2]
def places (n : Nat) : List Int := (List.range n).map fun (i : Nat) => (i : Int)
def froms (n : Nat) : List Int := (List.range (n + 1)).map fun (i : Nat) => (-1 : Int) + i
def movesAt (P : Prog) (w : Wat) (q : Int) : List Tri := ((takenFrom P w q).map fun p => (toldFrom P w p).map fun r => (q, p, r)).flatten
def moves (P : Prog) (w : Wat) : List Tri := ((froms P.length).map (movesAt P w)).flatten
theorem taken_rg {P : Prog} (h : OkP P) {w : Wat} (hw : OkW P.length w) {p : Int} (h0 : -1 ≤ p) (h1 : p < P.length) : InR P.length (takenFrom P w p) := by
  have hlo := h.lo
  have one : ∀ q : Int, 0 ≤ q → q < P.length → InR P.length [q] := fun q a b x hx => by rw [List.mem_singleton.mp hx]; exact ⟨a, b⟩
  unfold takenFrom
  by_cases c : p = -1
  · rw [if_pos c]
    exact (more_rg h _ _ _ (steps_rg h _ _ (one 0 (by decide) (by omega)))).usort
  · rw [if_neg c]
    exact (more_rg h _ _ _ (steps_rg h _ _ (one p (by omega) h1))).usort
theorem toldF_rg {P : Prog} (h : OkP P) (w : Wat) {p : Int} (h0 : 0 ≤ p) (h1 : p < P.length) : InR P.length (toldFrom P w p) :=
  (told_rg h w _ _ _ _ (fun x hx => by rw [List.mem_singleton.mp hx]; exact ⟨h0, h1⟩) InR.nil).usort
theorem up_takes {P : Prog} {w : Wat} (q : Int) : (takenFrom P w q).Pairwise (· < ·) := by
  unfold takenFrom
  split
  · exact usort_up _
  · exact usort_up _
theorem len_flat_le {α β : Type} (g : α → List β) (k : Nat) : ∀ xs : List α, (∀ x ∈ xs, (g x).length ≤ k) → ((xs.map g).flatten).length ≤ k * xs.length
  | [], _ => Nat.le_refl _
  | x :: xs, h => by
    have h1 := len_flat_le g k xs fun y hy => h y (List.mem_cons_of_mem _ hy)
    have h2 := h x List.mem_cons_self
    rw [List.map_cons, List.flatten_cons, List.length_append, List.length_cons, Nat.mul_succ]
    omega
theorem places_rg (n : Nat) : InR n (places n) := fun x hx => by
  obtain ⟨i, hi, rfl⟩ := List.mem_map.mp hx
  have := List.mem_range.mp hi
  omega
theorem places_D (n : Nat) : (List.range n).map (fun (i : Nat) => D.int i) = (places n).map D.int := by
  unfold places
  rw [List.map_map] <;> rfl
theorem froms_rg {n : Nat} {q : Int} (h : q ∈ froms n) : -1 ≤ q ∧ q < n := by
  obtain ⟨i, hi, rfl⟩ := List.mem_map.mp h
  have := List.mem_range.mp hi
  omega
theorem rngF {n : Nat} (h : n < 900) : rngI [.int (-1), .int n] = some ((froms n).map D.int) := by
  have h1 : okR (n : Int) = true := by
    unfold okR
    rw [decide_eq_true (by omega), decide_eq_true (by omega)] <;> rfl
  have h2 : okR (-1) = true := by decide
  unfold rngI froms
  simp only [h1, h2, Bool.and_self, if_true, List.map_map]
  rw [show ((n : Int) - -1).toNat = n + 1 by omega]
  rfl
theorem ix_places {α : Type} (e : α → D) (f : Int → α) {n : Nat} {p : Int} (h0 : 0 ≤ p) (h1 : p < n) : oIx (.lst ((places n).map fun p => e (f p))) (.int p) = some (e (f p)) := by
  have hl : p.toNat < n := by omega
  have := (ix_ok (ds := (places n).map fun p => e (f p)) (i := p.toNat) (d := e (f p)) (by
    unfold places
    rw [List.map_map, List.getElem?_map, List.getElem?_range hl]
    show some (e (f (p.toNat : Int))) = _
    rw [Int.toNat_of_nonneg h0])).1
  rw [Int.toNat_of_nonneg h0] at this
  exact this
theorem all_moves_run {P : Prog} (h : OkP P) {w : Wat} (hw : OkW P.length w) (cells : List Cell) : F_all_moves [dProg P, dWat w] cells = .ok (.lst ((moves P w).map dTri)) cells := by
  have hlo := h.lo
  have hhi := h.hi
  have hlp : (List.map dPlace P).length = P.length := List.length_map ..
  have hpl : (places P.length).length = P.length := by unfold places; rw [List.length_map, List.length_range]
  refine wpF_eq ?_
  array_mem_dec
  unfold b_all_moves
  repeat array_get_dec
  rw [hlp]
  refine ⟨_, rng1 (by omega), ?_⟩
  rw [places_D]
  repeat array_get_dec
  refine wp_lcM D.int (fun p => dTup (toldFrom P w p)) ?_ ?_
  · intro p hp
    have hr := places_rg _ p hp
    repeat array_get_dec
    refine wpF_ok (told_from_run h hw hr.1 hr.2 _) ?_
    repeat array_get_dec
    exact ⟨rfl, rfl⟩
  · refine ⟨small_map (by omega), ?_⟩
    repeat array_get_dec
    unfold b_all_moves_1
    repeat array_get_dec
    rw [hlp]
    refine ⟨_, rngF (by omega), ?_⟩
    repeat array_get_dec
    refine wp_lcFM D.int (fun q => (movesAt P w q).map dTri) ?_ ?_
    · intro q hq
      have hr := froms_rg hq
      repeat array_get_dec
      refine wpF_ok (taken_from_run h hw hr.1 hr.2 _) ?_
      repeat array_get_dec
      refine wp_lcFM D.int (fun p => (toldFrom P w p).map fun r => dTri (q, p, r)) ?_ ?_
      · intro p hp
        have hr := taken_rg h hw hr.1 hr.2 p hp
        repeat array_get_dec
        refine wp_opB rfl rfl (ix_places dTup (toldFrom P w) hr.1 hr.2) ?_
        repeat array_get_dec
        refine wp_lcM D.int (fun r => dTri (q, p, r)) ?_ ?_
        · intro r _
          repeat array_get_dec
          exact ⟨rfl, rfl⟩
        · repeat array_get_dec
          exact ⟨rfl, rfl⟩
      · repeat array_get_dec
        refine ⟨?_, rfl⟩
        unfold movesAt
        rw [← flat_map_D]
        congr 1
        exact List.map_congr_left fun p _ => by rw [List.map_map] <;> rfl
    · rw [flat_map_D]
      have hl : (moves P w).length ≤ 1000000 := by
        have h1 : ∀ q ∈ froms P.length, (movesAt P w q).length ≤ 8 * 8 := fun q hq => by
          have hr := froms_rg hq
          refine Nat.le_trans (len_flat_le _ 8 _ fun p hp => ?_) (Nat.mul_le_mul_left 8 (Nat.le_trans ((taken_rg h hw hr.1 hr.2).len (up_takes q)) hhi))
          have hr := taken_rg h hw hr.1 hr.2 p hp
          rw [List.length_map]
          exact Nat.le_trans ((toldF_rg h w hr.1 hr.2).len (usort_up _)) hhi
        have h2 := len_flat_le (movesAt P w) (8 * 8) (froms P.length) h1
        have h3 : (froms P.length).length = P.length + 1 := by unfold froms; rw [List.length_map, List.length_range]
        unfold moves
        omega
      refine ⟨small_map hl, ?_⟩
      repeat array_get_dec
      exact ⟨rfl, rfl⟩
def dSrc (P : Prog) (w : Wat) : D := .ins "Source" [("program", dProg P), ("watcher", dWat w), ("all", .lst ((moves P w).map dTri))]
theorem source_run {P : Prog} (h : OkP P) {w : Wat} (hw : OkW P.length w) (cells : List Cell) : F_Source [dProg P, dWat w] cells = .ok (dSrc P w) cells := by
  have hlo := h.lo
  have hhi := h.hi
  have hlp : (List.map dPlace P).length = P.length := List.length_map ..
  refine wpF_eq ?_
  refine wpF_init rfl (by (simp only [frame, Nat.reduceSub]; rfl)) ?_
  unfold b_Source___init__
  repeat array_get_dec
  refine wpF_ok (is_program_run h _) ?_
  repeat array_get_dec
  unfold b_Source___init___4
  repeat array_get_dec
  refine wpF_ok (is_watcher_run hw hhi _) ?_
  repeat array_get_dec
  refine wp_lcM D.int (fun x => .bl (decide (x < (P.length : Int)))) ?_ ?_
  · intro i _
    repeat array_get_dec
    rw [hlp]
    exact ⟨rfl, rfl⟩
  · refine ⟨small_map (Nat.le_trans (hw.rg.len hw.up) (by omega)), ?_⟩
    repeat array_get_dec
    refine ⟨_, oAll_map _ _, ?_⟩
    repeat array_get_dec
    rw [all_lt hw.rg]
    repeat array_get_dec
    unfold b_Source___init___3
    repeat array_get_dec
    unfold b_Source___init___2
    repeat array_get_dec
    unfold b_Source___init___1
    repeat array_get_dec
    refine wpF_ok (all_moves_run h hw _) ?_
    repeat array_get_dec
    exact ⟨rfl, rfl⟩
end LB
set_option Elab.async false
set_option linter.all false
set_option maxRecDepth 100000
set_option maxHeartbeats 1000000
namespace LB
open PySem DM
local macro_rules | `(tactic| array_get_dec) => `(tactic| with_reducible first
  | apply wp_seq
  | apply wp_mret
  | apply wp_set
  | apply wp_setO
  | apply wp_setV
  | apply wp_par
  | apply wp_parL
  | apply wp_parR
  | apply wp_self
  | (refine initK_nx (by with_unfolding_all rfl) ?_)
  | apply wp_expr
  | apply wp_asg
  | apply wp_next
  | apply wp_ret
  | apply wp_yes
  | apply endK_rt
  | apply endK_nx
  | apply seqK_rt
  | apply seqK_nx
  | (refine setK_in (by (simp only [List.set_cons_succ, List.set_cons_zero]; with_unfolding_all rfl)) ?_)
  | (refine setK2_in (by (simp only [List.set_cons_succ, List.set_cons_zero]; with_unfolding_all rfl)) ?_)
  | (refine putK_in (by with_unfolding_all rfl) (by (simp only [List.set_cons_succ, List.set_cons_zero]; with_unfolding_all rfl)) ?_)
  | (refine wp_var (by with_unfolding_all rfl) ?_)
  | (refine wp_varO (by with_unfolding_all rfl) (by (simp only [List.set_cons_succ, List.set_cons_zero]; with_unfolding_all rfl)) ?_)
  | apply wp_nil
  | apply wp_cons
  | apply wp_tup
  | apply wp_lst
  | apply wp_L
  | apply wp_opQ
  | (refine wp_opNQ (by with_unfolding_all rfl) ?_)
  | apply wp_opEQ
  | (refine wp_opBQ (by with_unfolding_all rfl) (by with_unfolding_all rfl) ?_)
  | (refine eqG_i (by with_unfolding_all rfl) (by with_unfolding_all rfl) ?_)
  | (refine neG_i (by with_unfolding_all rfl) (by with_unfolding_all rfl) ?_)
  | (refine eqG_of (by with_unfolding_all rfl) ?_)
  | apply wp_opA
  | (refine wp_opNA (by with_unfolding_all rfl) ?_)
  | apply wp_opEA
  | (refine wp_opBA (by with_unfolding_all rfl) (by with_unfolding_all rfl) ?_)
  | apply wp_opM
  | (refine wp_opNM (by with_unfolding_all rfl) ?_)
  | apply wp_opEM
  | (refine wp_opBM (by with_unfolding_all rfl) (by with_unfolding_all rfl) ?_)
  | apply wp_opT
  | (refine wp_opNT (by with_unfolding_all rfl) ?_)
  | apply wp_opET
  | (refine wp_opBT (by with_unfolding_all rfl) (by with_unfolding_all rfl) ?_)
  | apply wp_opF
  | (refine wp_opNF (by with_unfolding_all rfl) ?_)
  | apply wp_opEF
  | (refine wp_opBF (by with_unfolding_all rfl) (by with_unfolding_all rfl) ?_)
  | apply wp_opP
  | (refine wp_opNP (by with_unfolding_all rfl) ?_)
  | apply wp_opEP
  | (refine wp_opBP (by with_unfolding_all rfl) (by with_unfolding_all rfl) ?_)
  | (refine gAG_i (by with_unfolding_all rfl) (by with_unfolding_all rfl) ?_)
  | (refine gMG_i (by with_unfolding_all rfl) (by with_unfolding_all rfl) (by omega) ?_)
  | apply wp_op
  | (refine wp_opN (by with_unfolding_all rfl) ?_)
  | apply wp_opE
  | (refine wp_opB (by with_unfolding_all rfl) (by with_unfolding_all rfl) (by with_unfolding_all rfl) ?_)
  | apply wp_B
  | apply wp_not
  | apply wp_and
  | apply wp_or
  | apply wp_andV
  | apply wp_orV
  | apply wp_notV
  | apply wp_if
  | apply wp_ifS'
  | apply wp_chain
  | apply wp_args
  | (refine wp_look (by with_unfolding_all rfl) ?_)
  | apply wp_argF
  | apply wp_isa
  | apply wp_callS
  | apply wp_callF
  | apply wp_part
  | apply wp_neg
  | apply wp_sl
  | (refine wp_slN (by with_unfolding_all rfl) ?_)
  | (refine wp_mut (by with_unfolding_all rfl) ?_)
  | apply wp_fld
  | apply wp_call
  | apply wpC_in
  | apply wp_comp
  | (refine wpW_in (by (simp only [wipeE, List.set_cons_succ, List.set_cons_zero]; with_unfolding_all rfl)) ?_)
  | (refine backK_in (by (simp only [backE, List.getElem?_cons_zero, List.getElem?_cons_succ, List.set_cons_succ, List.set_cons_zero]; with_unfolding_all rfl)) ?_)
  | (refine wipeK_in (by (simp only [wipeE, List.set_cons_succ, List.set_cons_zero]; with_unfolding_all rfl)) ?_)
  | apply wp_rng
  | apply wp_items
  | apply wp_enum
  | apply wp_zip
  | apply wp_for
  | apply wp_lcOne
  | apply wp_lcIn
  | apply wpI_in
  | (refine wpU_name (by (simp only [List.set_cons_succ, List.set_cons_zero]; with_unfolding_all rfl)) ?_)
  | (refine wpU_tup (by with_unfolding_all rfl) ?_)
  | (refine wpU_tupL (by with_unfolding_all rfl) ?_)
  | apply wpU_cons
  | apply wpU_nil
  | (refine bltG (by with_unfolding_all rfl) ?_)
  | apply wp_raiseR
  | apply wp_raise1
  | (refine smallG (by with_unfolding_all rfl) ?_)
  | apply nn_t
  | apply nn_f
  | apply bb_t
  | apply bb_f
  | apply cc_t
  | apply cc_f
  | (refine and_dt (by first | omega | (simp only [List.length_cons, List.length_nil, List.length_map]; omega)) ?_)
  | (refine and_df (by first | omega | (simp only [List.length_cons, List.length_nil, List.length_map]; omega)) ?_)
  | (refine and_dct (by first | omega | (simp only [List.length_cons, List.length_nil, List.length_map]; omega)) ?_)
  | (refine and_dcf (by first | omega | (simp only [List.length_cons, List.length_nil, List.length_map]; omega)) ?_)
  | (refine and_nt (by first | omega | (simp only [List.length_cons, List.length_nil, List.length_map]; omega)) ?_)
  | (refine and_nf (by first | omega | (simp only [List.length_cons, List.length_nil, List.length_map]; omega)) ?_)
  | apply and_it
  | apply and_if
  | (refine nonD_t (by with_unfolding_all rfl) ?_)
  | (refine nonD_f (by with_unfolding_all rfl) ?_)
  | (refine nnonD_t (by with_unfolding_all rfl) ?_)
  | (refine nnonD_f (by with_unfolding_all rfl) ?_)
  | (refine isaG_t (by with_unfolding_all rfl) ?_)
  | (refine isaG_f (by with_unfolding_all rfl) ?_)
  | (refine Exists.intro _ (And.intro (by with_unfolding_all rfl) ?_))
  | (refine Exists.intro _ (Exists.intro _ (And.intro (by with_unfolding_all rfl) (And.intro (by with_unfolding_all rfl) ?_)))))
local macro_rules | `(tactic| array_mem_dec) => `(tactic| (refine wpF_run' rfl (by (simp only [frame]; rfl)) ?_))
def weightB : D → Bool
  | .int i => decide (i.natAbs ≤ 1000000)
  | _ => false
def nwExc : Exc := ⟨"NoWeights", []⟩
def ncExc : Exc := ⟨"NoChange", []⟩
theorem abs_le {i : Int} : (decide ((if i < 0 then -i else i) ≤ 1000000)) = decide (i.natAbs ≤ 1000000) := by
  rw [Bool.eq_iff_iff, decide_eq_true_iff, decide_eq_true_iff]
  split <;> omega
theorem weight_item {P : Prog} {w : Wat} {x : D} (hk : kindD x = true) (e : D) (cells : List Cell) :
    wpI (tName 2) mYes (lcOne (mAndV (mCall F_is_integer (mCons (mVar 2) mNil)) (mOp oLe (mCallS oAbs (mLook 2)) (ret (.int 1000000))))) [2] x ⟨[some (.val (dSrc P w)), some (.val e), none], cells⟩ fun ys s' => ys = [.bl (weightB x)] ∧ s' = ⟨[some (.val (dSrc P w)), some (.val e), none], cells⟩ := by
  repeat array_get_dec
  refine wpF_ok (is_integer_run x _ hk) ?_
  repeat array_get_dec
  refine ⟨fun hi => ?_, fun hi => ?_⟩
  · cases x with
    | int i =>
      repeat array_get_dec
      exact ⟨by rw [abs_le] <;> rfl, rfl⟩
    | _ => cases hi
  · repeat array_get_dec
    refine ⟨?_, rfl⟩
    cases x with
    | int i => cases hi
    | _ => rfl
theorem map_id_D (ds : List D) : ds.map (fun x => x) = ds := List.map_id' ds
theorem wp_lcI {f : D → M Unit} {tt : M Bool} {inner : M (List D)} {vs : List Nat} {ds : List D} {s : S} {Q : List D → S → Prop} {E : Exc → S → Prop} (g : D → D)
    (h : ∀ x ∈ ds, wpI f tt inner vs x s fun ys s' => ys = [g x] ∧ s' = s) (q : Q (ds.map g) s) : wp (lcGo f tt inner vs ds) s Q E := by
  have := wp_lcM (E := E) (xs := ds) (Q := Q) (fun x => x) g h q
  rw [map_id_D] at this
  exact this
theorem need_weights_tup {P : Prog} (h : OkP P) {w : Wat} {ds : List D} (hk : ∀ x ∈ ds, kindD x = true) (hl : ds.length ≤ 100) (cells : List Cell) :
    wpF F_need_weights [dSrc P w, .tup ds] cells (fun d c => d = .non ∧ c = cells ∧ ds.length = P.length ∧ ds.all weightB = true) (fun e c => e = nwExc ∧ c = cells ∧ ¬(ds.length = P.length ∧ ds.all weightB = true)) := by
  have hhi := h.hi
  have hlp : (List.map dPlace P).length = P.length := List.length_map ..
  array_mem_dec
  unfold b_need_weights
  repeat array_get_dec
  refine ⟨fun hc => ?_, fun hc => ?_⟩
  · have hc := of_decide_eq_true hc
    repeat array_get_dec
    exact ⟨rfl, rfl, fun z => hc (by rw [z.1, hlp])⟩
  · have hc := of_decide_eq_false hc
    have hlen : ds.length = P.length := by omega
    repeat array_get_dec
    unfold b_need_weights_1
    repeat array_get_dec
    refine wp_lcI (fun x => .bl (weightB x)) (fun x hx => weight_item (hk x hx) _ _) ?_
    refine ⟨small_map (by omega), ?_⟩
    repeat array_get_dec
    refine ⟨_, oAll_map _ _, ?_⟩
    repeat array_get_dec
    refine ⟨fun hb => ?_, fun hb => ?_⟩
    · repeat array_get_dec
      exact ⟨rfl, rfl, fun z => by rw [z.2] at hb; cases hb⟩
    · repeat array_get_dec
      exact ⟨rfl, rfl, hlen, by simpa using hb⟩
theorem need_weights_other {P : Prog} {w : Wat} {d : D} (hk : isaXs.contains (tyD d) = true) (ht : tyD d ≠ "tuple") (cells : List Cell) :
    F_need_weights [dSrc P w, d] cells = .exc nwExc cells := by
  cases d with
  | tup ds => exact absurd rfl ht
  | ins c fs => simp only [tyD] at hk; exact absurd hk (by decide)
  | ty n => simp only [tyD] at hk; exact absurd hk (by decide)
  | dicT n => simp only [tyD] at hk; exact absurd hk (by decide)
  | cel n => simp only [tyD] at hk; exact absurd hk (by decide)
  | scr n => simp only [tyD] at hk; exact absurd hk (by decide)
  | _ => rfl
abbrev Off := Int × Int
def dOff (o : Off) : D := .tup [.int o.1, .int o.2]
def offB (P : Prog) (w : Wat) (o : Off) : Bool := decide (0 ≤ o.1) && (decide (0 ≤ o.2) && (decide (o.1 < (P.length : Int)) && !w.marks.contains o.1))
theorem is_offer_run (P : Prog) (w : Wat) (o : Off) (cells : List Cell) : F_is_offer [dSrc P w, dOff o] cells = .ok (.bl (offB P w o)) cells := by
  have hlp : (List.map dPlace P).length = P.length := List.length_map ..
  refine wpF_eq ?_
  array_mem_dec
  unfold b_is_offer
  unfold dOff
  repeat array_get_dec
  refine wpF_ok (is_count_run (.int o.1) _ rfl) ?_
  repeat array_get_dec
  unfold offB
  refine ⟨fun h0 => ?_, fun h0 => ?_⟩
  · have h0 : decide (0 ≤ o.1) = false := by simpa [isCountD] using h0
    repeat array_get_dec
    exact ⟨by rw [h0] <;> rfl, rfl⟩
  · have h0 : decide (0 ≤ o.1) = true := by simpa [isCountD] using h0
    rw [h0]
    repeat array_get_dec
    refine wpF_ok (is_count_run (.int o.2) _ rfl) ?_
    repeat array_get_dec
    refine ⟨fun h1 => ?_, fun h1 => ?_⟩
    · have h1 : decide (0 ≤ o.2) = false := by simpa [isCountD] using h1
      repeat array_get_dec
      exact ⟨by rw [h1] <;> rfl, rfl⟩
    · have h1 : decide (0 ≤ o.2) = true := by simpa [isCountD] using h1
      rw [h1]
      repeat array_get_dec
      unfold b_is_offer_1
      repeat array_get_dec
      rw [hlp]
      refine ⟨fun h2 => ?_, fun h2 => ?_⟩
      · rw [h2]
        repeat array_get_dec
        refine ⟨_, in_ints _ _ _, ?_⟩
        repeat array_get_dec
        exact ⟨rfl, rfl⟩
      · rw [h2]
        repeat array_get_dec
        exact ⟨rfl, rfl⟩
theorem is_offer_other {P : Prog} {w : Wat} {d : D} (hk : isaXs.contains (tyD d) = true) (ht : tyD d ≠ "tuple") (cells : List Cell) : F_is_offer [dSrc P w, d] cells = .ok (.bl false) cells := by
  cases d with
  | tup ds => exact absurd rfl ht
  | ins c fs => simp only [tyD] at hk; exact absurd hk (by decide)
  | ty n => simp only [tyD] at hk; exact absurd hk (by decide)
  | dicT n => simp only [tyD] at hk; exact absurd hk (by decide)
  | cel n => simp only [tyD] at hk; exact absurd hk (by decide)
  | scr n => simp only [tyD] at hk; exact absurd hk (by decide)
  | _ => rfl
theorem is_offer_len {P : Prog} {w : Wat} {ds : List D} (hl : ds.length ≠ 2) (cells : List Cell) : F_is_offer [dSrc P w, .tup ds] cells = .ok (.bl false) cells := by
  refine wpF_eq ?_
  array_mem_dec
  unfold b_is_offer
  repeat array_get_dec
  exact ⟨rfl, rfl⟩
theorem is_offer_two {P : Prog} {w : Wat} {x y : D} (hx : kindD x = true) (hy : kindD y = true) (hc : (isCountD x && isCountD y) = false) (cells : List Cell) : F_is_offer [dSrc P w, .tup [x, y]] cells = .ok (.bl false) cells := by
  refine wpF_eq ?_
  array_mem_dec
  unfold b_is_offer
  repeat array_get_dec
  refine wpF_ok (is_count_run x _ hx) ?_
  repeat array_get_dec
  refine ⟨fun h0 => ?_, fun h0 => ?_⟩
  · repeat array_get_dec
    exact ⟨rfl, rfl⟩
  · have h0 : isCountD x = true := by simpa using h0
    rw [h0, Bool.true_and] at hc
    repeat array_get_dec
    refine wpF_ok (is_count_run y _ hy) ?_
    rw [hc]
    repeat array_get_dec
    exact ⟨rfl, rfl⟩
end LB
set_option Elab.async false
set_option linter.all false
set_option maxRecDepth 100000
set_option maxHeartbeats 1000000
namespace LB
open PySem DM 
local macro_rules | `(tactic| array_get_dec) => `(tactic| with_reducible first
  | apply wp_seq
  | apply wp_mret
  | apply wp_set
  | apply wp_setO
  | apply wp_setV
  | apply wp_par
  | apply wp_parL
  | apply wp_parR
  | apply wp_self
  | (refine initK_nx (by with_unfolding_all rfl) ?_)
  | apply wp_expr
  | apply wp_asg
  | apply wp_next
  | apply wp_ret
  | apply wp_yes
  | apply endK_rt
  | apply endK_nx
  | apply seqK_rt
  | apply seqK_nx
  | (refine setK_in (by (simp only [List.set_cons_succ, List.set_cons_zero]; with_unfolding_all rfl)) ?_)
  | (refine setK2_in (by (simp only [List.set_cons_succ, List.set_cons_zero]; with_unfolding_all rfl)) ?_)
  | (refine putK_in (by with_unfolding_all rfl) (by (simp only [List.set_cons_succ, List.set_cons_zero]; with_unfolding_all rfl)) ?_)
  | (refine wp_var (by with_unfolding_all rfl) ?_)
  | (refine wp_varO (by with_unfolding_all rfl) (by (simp only [List.set_cons_succ, List.set_cons_zero]; with_unfolding_all rfl)) ?_)
  | apply wp_nil
  | apply wp_cons
  | apply wp_tup
  | apply wp_lst
  | apply wp_L
  | apply wp_opQ
  | (refine wp_opNQ (by with_unfolding_all rfl) ?_)
  | apply wp_opEQ
  | (refine wp_opBQ (by with_unfolding_all rfl) (by with_unfolding_all rfl) ?_)
  | (refine eqG_i (by with_unfolding_all rfl) (by with_unfolding_all rfl) ?_)
  | (refine neG_i (by with_unfolding_all rfl) (by with_unfolding_all rfl) ?_)
  | (refine eqG_of (by with_unfolding_all rfl) ?_)
  | apply wp_opA
  | (refine wp_opNA (by with_unfolding_all rfl) ?_)
  | apply wp_opEA
  | (refine wp_opBA (by with_unfolding_all rfl) (by with_unfolding_all rfl) ?_)
  | apply wp_opM
  | (refine wp_opNM (by with_unfolding_all rfl) ?_)
  | apply wp_opEM
  | (refine wp_opBM (by with_unfolding_all rfl) (by with_unfolding_all rfl) ?_)
  | apply wp_opT
  | (refine wp_opNT (by with_unfolding_all rfl) ?_)
  | apply wp_opET
  | (refine wp_opBT (by with_unfolding_all rfl) (by with_unfolding_all rfl) ?_)
  | apply wp_opF
  | (refine wp_opNF (by with_unfolding_all rfl) ?_)
  | apply wp_opEF
  | (refine wp_opBF (by with_unfolding_all rfl) (by with_unfolding_all rfl) ?_)
  | apply wp_opP
  | (refine wp_opNP (by with_unfolding_all rfl) ?_)
  | apply wp_opEP
  | (refine wp_opBP (by with_unfolding_all rfl) (by with_unfolding_all rfl) ?_)
  | (refine gAG_i (by with_unfolding_all rfl) (by with_unfolding_all rfl) ?_)
  | (refine gMG_i (by with_unfolding_all rfl) (by with_unfolding_all rfl) (by omega) ?_)
  | apply wp_op
  | (refine wp_opN (by with_unfolding_all rfl) ?_)
  | apply wp_opE
  | (refine wp_opB (by with_unfolding_all rfl) (by with_unfolding_all rfl) (by with_unfolding_all rfl) ?_)
  | apply wp_B
  | apply wp_not
  | apply wp_and
  | apply wp_or
  | apply wp_andV
  | apply wp_orV
  | apply wp_notV
  | apply wp_if
  | apply wp_ifS'
  | apply wp_chain
  | apply wp_args
  | (refine wp_look (by with_unfolding_all rfl) ?_)
  | apply wp_argF
  | apply wp_isa
  | apply wp_callS
  | apply wp_callF
  | apply wp_part
  | apply wp_neg
  | apply wp_sl
  | (refine wp_slN (by with_unfolding_all rfl) ?_)
  | (refine wp_mut (by with_unfolding_all rfl) ?_)
  | apply wp_fld
  | apply wp_call
  | apply wpC_in
  | apply wp_comp
  | (refine wpW_in (by (simp only [wipeE, List.set_cons_succ, List.set_cons_zero]; with_unfolding_all rfl)) ?_)
  | (refine backK_in (by (simp only [backE, List.getElem?_cons_zero, List.getElem?_cons_succ, List.set_cons_succ, List.set_cons_zero]; with_unfolding_all rfl)) ?_)
  | (refine wipeK_in (by (simp only [wipeE, List.set_cons_succ, List.set_cons_zero]; with_unfolding_all rfl)) ?_)
  | apply wp_rng
  | apply wp_items
  | apply wp_enum
  | apply wp_zip
  | apply wp_for
  | apply wp_lcOne
  | apply wp_dcOne
  | apply wp_dcomp
  | apply wp_lcIn
  | apply wpI_in
  | (refine wpU_name (by (simp only [List.set_cons_succ, List.set_cons_zero]; with_unfolding_all rfl)) ?_)
  | (refine wpU_tup (by with_unfolding_all rfl) ?_)
  | (refine wpU_tupL (by with_unfolding_all rfl) ?_)
  | apply wpU_cons
  | apply wpU_nil
  | (refine bltG (by with_unfolding_all rfl) ?_)
  | apply wp_raiseR
  | apply wp_raise1
  | (refine smallG (by with_unfolding_all rfl) ?_)
  | apply nn_t
  | apply nn_f
  | apply bb_t
  | apply bb_f
  | apply cc_t
  | apply cc_f
  | (refine and_dt (by first | omega | (simp only [List.length_cons, List.length_nil, List.length_map]; omega)) ?_)
  | (refine and_df (by first | omega | (simp only [List.length_cons, List.length_nil, List.length_map]; omega)) ?_)
  | (refine and_dct (by first | omega | (simp only [List.length_cons, List.length_nil, List.length_map]; omega)) ?_)
  | (refine and_dcf (by first | omega | (simp only [List.length_cons, List.length_nil, List.length_map]; omega)) ?_)
  | (refine and_nt (by first | omega | (simp only [List.length_cons, List.length_nil, List.length_map]; omega)) ?_)
  | (refine and_nf (by first | omega | (simp only [List.length_cons, List.length_nil, List.length_map]; omega)) ?_)
  | apply and_it
  | apply and_if
  | (refine nonD_t (by with_unfolding_all rfl) ?_)
  | (refine nonD_f (by with_unfolding_all rfl) ?_)
  | (refine nnonD_t (by with_unfolding_all rfl) ?_)
  | (refine nnonD_f (by with_unfolding_all rfl) ?_)
  | (refine isaG_t (by with_unfolding_all rfl) ?_)
  | (refine isaG_f (by with_unfolding_all rfl) ?_)
  | (refine Exists.intro _ (And.intro (by with_unfolding_all rfl) ?_))
  | (refine Exists.intro _ (Exists.intro _ (And.intro (by with_unfolding_all rfl) (And.intro (by with_unfolding_all rfl) ?_)))))
local macro_rules | `(tactic| array_mem_dec) => `(tactic| (refine wpF_run' rfl (by (simp only [frame]; rfl)) ?_))
theorem need_offers_bad {P : Prog} {w : Wat} {ds : List D} (g : D → Bool) (hg : ∀ x ∈ ds, ∀ cells, F_is_offer [dSrc P w, x] cells = .ok (.bl (g x)) cells) (hl : ds.length ≤ 100) (hb : ds.all g = false) (cells : List Cell) :
    F_need_offers [dSrc P w, .lst ds] cells = .exc ncExc cells := by
  have key : wpF F_need_offers [dSrc P w, .lst ds] cells (fun _ _ => False) (fun e c => e = ncExc ∧ c = cells) := by
    array_mem_dec
    unfold b_need_offers
    repeat array_get_dec
    refine wp_lcI (fun x => .bl (g x)) (fun x hx => ?_) ?_
    · repeat array_get_dec
      refine wpF_ok (hg x hx _) ?_
      repeat array_get_dec
      exact ⟨rfl, rfl⟩
    · refine ⟨small_map (by omega), ?_⟩
      repeat array_get_dec
      refine ⟨_, oAll_map _ _, ?_⟩
      rw [hb]
      repeat array_get_dec
      exact ⟨rfl, rfl⟩
  exact wpF_excEq key
theorem need_offers_other {P : Prog} {w : Wat} {d : D} (hk : isaXs.contains (tyD d) = true) (ht : tyD d ≠ "list") (cells : List Cell) : F_need_offers [dSrc P w, d] cells = .exc ncExc cells := by
  cases d with
  | lst ds => exact absurd rfl ht
  | ins c fs => simp only [tyD] at hk; exact absurd hk (by decide)
  | ty n => simp only [tyD] at hk; exact absurd hk (by decide)
  | dicT n => simp only [tyD] at hk; exact absurd hk (by decide)
  | cel n => simp only [tyD] at hk; exact absurd hk (by decide)
  | scr n => simp only [tyD] at hk; exact absurd hk (by decide)
  | _ => rfl
def tmExc : Exc := ⟨"TooMany", [("limit", .int 6)]⟩
theorem need_offers_run {P : Prog} {w : Wat} {os : List Off} (hg : ∀ o ∈ os, offB P w o = true) (hl : os.length ≤ 100) (cells : List Cell) :
    wpF F_need_offers [dSrc P w, .lst (os.map dOff)] cells (fun d c => d = .non ∧ c = cells ∧ (os.map (·.1)).Nodup ∧ os.length ≤ 6) (fun e c => c = cells ∧ ((¬(os.map (·.1)).Nodup ∧ e = ncExc) ∨ ((os.map (·.1)).Nodup ∧ 6 < os.length ∧ e = tmExc))) := by
  have hom : (os.map dOff).length = os.length := List.length_map ..
  array_mem_dec
  unfold b_need_offers
  repeat array_get_dec
  refine wp_lcM dOff (fun _ => .bl true) (fun o ho => ?_) ?_
  · repeat array_get_dec
    refine wpF_ok (is_offer_run P w o _) ?_
    rw [hg o ho]
    repeat array_get_dec
    exact ⟨rfl, rfl⟩
  · refine ⟨small_map (by omega), ?_⟩
    repeat array_get_dec
    refine ⟨_, oAll_map (fun _ => true) _, ?_⟩
    rw [show (os.all fun _ => true) = true by simp]
    repeat array_get_dec
    unfold b_need_offers_2
    repeat array_get_dec
    refine wp_lcM dOff (fun o => ((.inl o.1 : L2.Key), D.bl true)) (fun o ho => ?_) ?_
    · unfold dOff
      repeat array_get_dec
      exact ⟨rfl, rfl⟩
    · refine ⟨Nat.ble_eq_true_of_le (by rw [List.length_map]; omega), ?_⟩
      repeat array_get_dec
      have hkeys : keysD (os.map fun o => ((.inl o.1 : L2.Key), D.bl true)) = (os.map (·.1)).map Sum.inl := by
        unfold keysD
        rw [List.map_map, List.map_map] <;> rfl
      have hsz := putAll_size (os.map fun o => ((.inl o.1 : L2.Key), D.bl true)) [] (by unfold keysD; simp)
      rw [show keysD ([] : List (L2.Key × D)) = [] from rfl, List.nil_append, hkeys, List.length_map] at hsz
      have hnd : ((os.map (·.1)).map (Sum.inl : Int → L2.Key)).Nodup ↔ (os.map (·.1)).Nodup := by
        unfold List.Nodup
        rw [List.pairwise_map]
        exact ⟨fun z => z.imp fun h e => h (by rw [e]), fun z => z.imp fun h e => h (by cases e; rfl)⟩
      rw [hnd] at hsz
      rw [hom]
      have hsz2 := hsz.2
      rw [List.length_nil, Nat.zero_add] at hsz2
      refine ⟨fun hc => ?_, fun hc => ?_⟩
      · have hc := of_decide_eq_true hc
        repeat array_get_dec
        exact ⟨rfl, .inl ⟨fun z => hc (by rw [hsz2.mpr z]), rfl⟩⟩
      · have hc := of_decide_eq_false hc
        have hn : (os.map (·.1)).Nodup := hsz2.mp (by omega)
        repeat array_get_dec
        unfold b_need_offers_1
        repeat array_get_dec
        rw [hom]
        refine ⟨fun hd => ?_, fun hd => ?_⟩
        · have hd := of_decide_eq_true hd
          repeat array_get_dec
          exact ⟨rfl, .inr ⟨hn, by omega, rfl⟩⟩
        · have hd := of_decide_eq_false hd
          repeat array_get_dec
          exact ⟨rfl, rfl, hn, by omega⟩
end LB
set_option Elab.async false
set_option linter.all false
set_option maxRecDepth 100000
set_option maxHeartbeats 1000000
namespace LB
open PySem DM 
local macro_rules | `(tactic| array_get_dec) => `(tactic| with_reducible first
  | apply wp_seq
  | apply wp_mret
  | apply wp_set
  | apply wp_setO
  | apply wp_setV
  | apply wp_par
  | apply wp_parL
  | apply wp_parR
  | apply wp_self
  | (refine initK_nx (by with_unfolding_all rfl) ?_)
  | apply wp_expr
  | apply wp_asg
  | apply wp_next
  | apply wp_ret
  | apply wp_yes
  | apply endK_rt
  | apply endK_nx
  | apply seqK_rt
  | apply seqK_nx
  | (refine setK_in (by (simp only [List.set_cons_succ, List.set_cons_zero]; with_unfolding_all rfl)) ?_)
  | (refine setK2_in (by (simp only [List.set_cons_succ, List.set_cons_zero]; with_unfolding_all rfl)) ?_)
  | (refine putK_own (by with_unfolding_all rfl) (by (simp only [List.set_cons_succ, List.set_cons_zero]; with_unfolding_all rfl)) ?_)
  | (refine wp_var (by with_unfolding_all rfl) ?_)
  | (refine wp_varO (by with_unfolding_all rfl) (by (simp only [List.set_cons_succ, List.set_cons_zero]; with_unfolding_all rfl)) ?_)
  | apply wp_nil
  | apply wp_cons
  | apply wp_tup
  | apply wp_lst
  | apply wp_L
  | apply wp_opQ
  | (refine wp_opNQ (by with_unfolding_all rfl) ?_)
  | apply wp_opEQ
  | (refine wp_opBQ (by with_unfolding_all rfl) (by with_unfolding_all rfl) ?_)
  | (refine eqG_i (by with_unfolding_all rfl) (by with_unfolding_all rfl) ?_)
  | (refine neG_i (by with_unfolding_all rfl) (by with_unfolding_all rfl) ?_)
  | (refine eqG_of (by with_unfolding_all rfl) ?_)
  | apply wp_opA
  | (refine wp_opNA (by with_unfolding_all rfl) ?_)
  | apply wp_opEA
  | (refine wp_opBA (by with_unfolding_all rfl) (by with_unfolding_all rfl) ?_)
  | apply wp_opM
  | (refine wp_opNM (by with_unfolding_all rfl) ?_)
  | apply wp_opEM
  | (refine wp_opBM (by with_unfolding_all rfl) (by with_unfolding_all rfl) ?_)
  | apply wp_opT
  | (refine wp_opNT (by with_unfolding_all rfl) ?_)
  | apply wp_opET
  | (refine wp_opBT (by with_unfolding_all rfl) (by with_unfolding_all rfl) ?_)
  | apply wp_opF
  | (refine wp_opNF (by with_unfolding_all rfl) ?_)
  | apply wp_opEF
  | (refine wp_opBF (by with_unfolding_all rfl) (by with_unfolding_all rfl) ?_)
  | apply wp_opP
  | (refine wp_opNP (by with_unfolding_all rfl) ?_)
  | apply wp_opEP
  | (refine wp_opBP (by with_unfolding_all rfl) (by with_unfolding_all rfl) ?_)
  | (refine gAG_i (by with_unfolding_all rfl) (by with_unfolding_all rfl) ?_)
  | (refine gMG_i (by with_unfolding_all rfl) (by with_unfolding_all rfl) (by omega) ?_)
  | apply wp_op
  | (refine wp_opN (by with_unfolding_all rfl) ?_)
  | apply wp_opE
  | (refine wp_opB (by with_unfolding_all rfl) (by with_unfolding_all rfl) (by with_unfolding_all rfl) ?_)
  | apply wp_B
  | apply wp_not
  | apply wp_and
  | apply wp_or
  | apply wp_andV
  | apply wp_orV
  | apply wp_notV
  | apply wp_if
  | apply wp_ifS'
  | apply wp_chain
  | apply wp_args
  | (refine wp_look (by with_unfolding_all rfl) ?_)
  | apply wp_argF
  | apply wp_isa
  | apply wp_callS
  | apply wp_callF
  | apply wp_part
  | apply wp_neg
  | apply wp_sl
  | (refine wp_slN (by with_unfolding_all rfl) ?_)
  | (refine wp_mut (by with_unfolding_all rfl) ?_)
  | apply wp_fld
  | apply wp_call
  | apply wpC_in
  | apply wp_comp
  | (refine wpW_in (by (simp only [wipeE, List.set_cons_succ, List.set_cons_zero]; with_unfolding_all rfl)) ?_)
  | (refine backK_in (by (simp only [backE, List.getElem?_cons_zero, List.getElem?_cons_succ, List.set_cons_succ, List.set_cons_zero]; with_unfolding_all rfl)) ?_)
  | (refine wipeK_in (by (simp only [wipeE, List.set_cons_succ, List.set_cons_zero]; with_unfolding_all rfl)) ?_)
  | apply wp_rng
  | apply wp_items
  | apply wp_enum
  | apply wp_zip
  | apply wp_for
  | apply wp_lcOne
  | apply par2
  | apply wp_dcOne
  | apply wp_dcomp
  | apply wp_lcIn
  | apply wpI_in
  | (refine wpU_name (by (simp only [List.set_cons_succ, List.set_cons_zero]; with_unfolding_all rfl)) ?_)
  | (refine wpU_tup (by with_unfolding_all rfl) ?_)
  | (refine wpU_tupL (by with_unfolding_all rfl) ?_)
  | apply wpU_cons
  | apply wpU_nil
  | (refine bltG (by with_unfolding_all rfl) ?_)
  | apply wp_raiseR
  | apply wp_raise1
  | (refine smallG (by with_unfolding_all rfl) ?_)
  | apply nn_t
  | apply nn_f
  | apply bb_t
  | apply bb_f
  | apply cc_t
  | apply cc_f
  | (refine and_dt (by first | omega | (simp only [List.length_cons, List.length_nil, List.length_map]; omega)) ?_)
  | (refine and_df (by first | omega | (simp only [List.length_cons, List.length_nil, List.length_map]; omega)) ?_)
  | (refine and_dct (by first | omega | (simp only [List.length_cons, List.length_nil, List.length_map]; omega)) ?_)
  | (refine and_dcf (by first | omega | (simp only [List.length_cons, List.length_nil, List.length_map]; omega)) ?_)
  | (refine and_nt (by first | omega | (simp only [List.length_cons, List.length_nil, List.length_map]; omega)) ?_)
  | (refine and_nf (by first | omega | (simp only [List.length_cons, List.length_nil, List.length_map]; omega)) ?_)
  | apply and_it
  | apply and_if
  | (refine nonD_t (by with_unfolding_all rfl) ?_)
  | (refine nonD_f (by with_unfolding_all rfl) ?_)
  | (refine nnonD_t (by with_unfolding_all rfl) ?_)
  | (refine nnonD_f (by with_unfolding_all rfl) ?_)
  | (refine isaG_t (by with_unfolding_all rfl) ?_)
  | (refine isaG_f (by with_unfolding_all rfl) ?_)
  | (refine Exists.intro _ (And.intro (by with_unfolding_all rfl) ?_))
  | (refine Exists.intro _ (Exists.intro _ (And.intro (by with_unfolding_all rfl) (And.intro (by with_unfolding_all rfl) ?_)))))
local macro_rules | `(tactic| array_mem_dec) => `(tactic| (refine wpF_run' rfl (by (simp only [frame]; rfl)) ?_))
theorem below_wp {n : Nat} {cells : List Cell} {bound : Int} (h : Deck (n + 1) cells) (h0 : 0 < bound) (h1 : bound < 2 ^ 60) {Q : D → List Cell → Prop} {E : Exc → List Cell → Prop} (q : ∀ (r : Int) c, 0 ≤ r → r < bound → Deck n c → Q (.int r) c) : wpF F__law_below [.cel 0, .int bound] cells Q E := by
  obtain ⟨r, c, e, r0, r1, d⟩ := below_ok h h0 h1
  exact wpF_ok e (q r c r0 r1 d)
theorem pick_wp {n : Nat} {cells : List Cell} {ds : List D} (h : Deck (n + 1) cells) (h0 : ds ≠ []) (h1 : ds.length < 2 ^ 50) {Q : D → List Cell → Prop} {E : Exc → List Cell → Prop} (q : ∀ d c, d ∈ ds → Deck n c → Q d c) : wpF F__law_pick [.cel 0, .lst ds] cells Q E := by
  have hl : 0 < ds.length := List.length_pos_iff.mpr h0
  array_mem_dec
  unfold b__law_pick
  repeat array_get_dec
  refine below_wp h (by omega) (by omega) fun r c r0 r1 dk => ?_
  have hr : r.toNat < ds.length := by omega
  have e := (ix_ok (ds := ds) (i := r.toNat) (d := ds[r.toNat]) (List.getElem?_eq_getElem hr)).1
  rw [Int.toNat_of_nonneg r0] at e
  refine ⟨_, _, rfl, e, ?_⟩
  repeat array_get_dec
  exact q _ _ (List.getElem_mem hr) dk
theorem names_cut {k : Nat} (h : k ≤ 4) : cutD (names4.map .str) none (some (k : Int)) = (names4.take k).map .str := by rw [cutD_to, List.map_take]
theorem Deck.mono {m n : Nat} {cells : List Cell} (h : Deck n cells) (k : m ≤ n := by omega) : Deck m cells := h.le k
def prS (many : Nat) (cnt : Nat) (sg : List Str) (fnd : List D) (way : Int) (pl nx : Option Slot) (c : List Cell) : S :=
  ⟨[some (.val (.cel 0)), some (.val (.int many)), some (.val (.int cnt)), some (.val (.lst (sg.map .str))), some (.own fnd), some (.val (.int way)), pl, nx, none], c⟩
theorem range_places (n : Nat) (h : n < 900) : rngI [.int n] = some ((places n).map D.int) := by rw [rng1 (by omega), places_D]
theorem places_len (n : Nat) : (places n).length = n := by unfold places; rw [List.length_map, List.length_range]
theorem places_up (n : Nat) : (places n).Pairwise (· < ·) := by
  unfold places
  rw [List.pairwise_map]
  exact List.pairwise_lt_range.imp fun h => by omega
theorem setTup {n : Nat} {xs : List Int} (h : InR n xs) (hn : n ≤ 8) (hl : xs.length < 4000) : fSortedSet [.lst (xs.map .int)] = some ((usort xs).map .int) := (sortedSet_ok h hn hl).1
theorem append_ok {ds : List D} {v : D} (h : ds.length ≤ 1000000) : fAppend ds [v] = some (.non, ds ++ [v]) := by
  unfold fAppend
  simp only [small_le h, if_true]
theorem InR.one {n : Nat} {x : Int} (h0 : 0 ≤ x) (h1 : x < n) : InR n [x] := fun y hy => by rw [List.mem_singleton.mp hy]; exact ⟨h0, h1⟩
theorem map_snoc {α β : Type} (e : α → β) (xs : List α) (x : α) : xs.map e ++ [e x] = (xs ++ [x]).map e := by rw [List.map_append] <;> rfl
theorem some_program_wp {n : Nat} {cells : List Cell} {many : Nat} (h : Deck (n + 100) cells) (m0 : 0 < many) (m8 : many ≤ 8) {Q : D → List Cell → Prop} {E : Exc → List Cell → Prop} (q : ∀ (P : Prog) c, OkP P → P.length ≤ many → Deck n c → Q (dProg P) c) : wpF F__law_some_program [.cel 0, .int many] cells Q E := by
  array_mem_dec
  unfold b__law_some_program
  repeat array_get_dec
  refine below_wp h (by omega) (by omega) fun r c r0 r1 dk => ?_
  repeat array_get_dec
  refine below_wp dk (by omega) (by omega) fun r2 c2 r20 r21 dk2 => ?_
  repeat array_get_dec
  obtain ⟨k, rfl⟩ := Int.eq_ofNat_of_zero_le r0
  obtain ⟨k2, rfl⟩ := Int.eq_ofNat_of_zero_le r20
  have e1 : (1 : Int) + (k : Int) = ((k + 1 : Nat) : Int) := by omega
  have e2 : (1 : Int) + (k2 : Int) = ((k2 + 1 : Nat) : Int) := by omega
  have e3 := names_cut (k := k2 + 1) (by omega)
  rw [e1, e2]
  have hc : k + 1 ≤ many := by omega
  generalize hcn : k + 1 = cnt at hc
  have hc0 : 0 < cnt := by omega
  have hsg : ∃ sg : List Str, cutD [D.str "a", D.str "b", D.str "row12", D.str "z9z9z9z9"] none (some ((k2 + 1 : Nat) : Int)) = sg.map .str ∧ sg ≠ [] ∧ sg.length ≤ 4 ∧ ∀ x ∈ sg, x ∈ names4 := by
    refine ⟨names4.take (k2 + 1), e3, ?_, ?_, fun x hx => List.mem_of_mem_take hx⟩
    · unfold names4; simp
    · rw [List.length_take]; exact Nat.min_le_right _ _
  obtain ⟨sg, hs1, hs2, hs3, hs4⟩ := hsg
  rw [hs1]
  unfold b__law_some_program_6
  repeat array_get_dec
  refine below_wp dk2 (by omega) (by omega) fun way c3 w0 w1 dk3 => ?_
  repeat array_get_dec
  unfold b__law_some_program_5
  repeat array_get_dec
  refine ⟨_, rng1 (by omega), ?_⟩
  rw [List.range_eq_range']
  refine wp_forGo (fun rem s => ∃ k r ps pl nx c, rem = (List.range' k r).map (fun (i : Nat) => D.int i) ∧ k + r = cnt ∧ List.length ps = k ∧ (∀ p ∈ ps, OkPl cnt p) ∧ Deck (n + 9 * r) c ∧ s = prS many cnt sg (ps.map dPlace) way pl nx c) ?_ ?_ _ _
    ⟨0, cnt, [], none, none, c3, rfl, by omega, rfl, (fun p hp => by cases hp), dk3.mono, rfl⟩
  · rintro d ds s ⟨k, r, ps, pl, nx, c, hr, hkr, hpl, hps, dk, rfl⟩
    cases r with
    | zero => cases hr
    | succ r =>
      rw [List.range'_succ, List.map_cons] at hr
      obtain ⟨rfl, rfl⟩ := List.cons.inj hr
      unfold prS
      repeat array_get_dec
      unfold b__law_some_program_4
      refine wp_mid (fun s' => ∃ xs c', InR cnt xs ∧ xs.length ≤ 8 ∧ Deck (n + 9 * r + 1) c' ∧ s' = prS many cnt sg (ps.map dPlace) way (some (.val (.int k))) (some (.own (xs.map .int))) c') ?_ ?_
      · repeat array_get_dec
        refine ⟨_, range_places cnt (by omega), ?_⟩
        repeat array_get_dec
        refine wp_lcSub D.int D.int (fun j c' => Deck (n + 9 * r + 1 + j) c') ?_ (by rw [places_len]; exact dk.mono) ?_
        · intro x hx j c' hd
          repeat array_get_dec
          refine below_wp hd (by omega) (by omega) fun z c4 z0 z1 hd2 => ?_
          repeat array_get_dec
          refine ⟨fun _ => ?_, fun _ => ?_⟩
          · repeat array_get_dec
            exact ⟨.inr rfl, rfl, hd2⟩
          · repeat array_get_dec
            exact ⟨.inl rfl, rfl, hd2⟩
        · intro xs c' hsub hd
          have hxl : xs.length ≤ cnt := by
            have := hsub.length_le
            rw [places_len] at this
            exact this
          refine ⟨small_map (by omega), ?_⟩
          repeat array_get_dec
          exact ⟨rfl, xs, c', fun x hx => places_rg cnt x (hsub.subset hx), by omega, hd, rfl⟩
      · rintro s ⟨xs, c', hx, hxl, hd, rfl⟩
        unfold b__law_some_program_3
        refine wp_mid (fun s' => ∃ xs, InR cnt xs ∧ xs.length ≤ 9 ∧ s' = prS many cnt sg (ps.map dPlace) way (some (.val (.int k))) (some (.own (xs.map .int))) c') ?_ ?_
        · unfold prS
          repeat array_get_dec
          refine ⟨fun _ => ?_, fun _ => ?_⟩
          · repeat array_get_dec
            refine ⟨_, _, append_ok (by rw [List.length_map]; omega), ?_⟩
            repeat array_get_dec
            refine ⟨rfl, xs ++ [((k : Int) + 1) % cnt], hx.app (InR.one (Int.emod_nonneg _ (by omega)) (Int.emod_lt_of_pos _ (by omega))), by rw [List.length_append]; simp; omega, ?_⟩
            rw [map_snoc]
          · repeat array_get_dec
            exact ⟨rfl, xs, hx, by omega, rfl⟩
        · rintro s ⟨xs, hx, hxl, rfl⟩
          unfold b__law_some_program_2
          refine wp_mid (fun s' => ∃ xs, InR cnt xs ∧ xs.length ≤ 9 ∧ s' = prS many cnt sg (ps.map dPlace) way (some (.val (.int k))) (some (.own (xs.map .int))) c') ?_ ?_
          · unfold prS
            have hyes : (fun f s' => f = Flow.nx ∧ ∃ xs, InR cnt xs ∧ xs.length ≤ 9 ∧ s' = prS many cnt sg (ps.map dPlace) way (some (.val (.int k))) (some (.own (xs.map .int))) c') Flow.nx (prS many cnt sg (ps.map dPlace) way (some (.val (.int k))) (some (.own (xs.map .int))) c') := ⟨rfl, xs, hx, hxl, rfl⟩
            repeat array_get_dec
            refine ⟨fun _ => ?_, fun _ => ?_⟩
            · repeat array_get_dec
              refine ⟨fun _ => ?_, fun _ => ?_⟩
              · repeat array_get_dec
                exact ⟨rfl, [], InR.nil, by simp, rfl⟩
              · repeat array_get_dec
                exact hyes
            · repeat array_get_dec
              exact hyes
          · rintro s ⟨xs, hx, hxl, rfl⟩
            unfold b__law_some_program_1 prS
            repeat array_get_dec
            refine pick_wp hd (by simpa using hs2) (by rw [List.length_map]; omega) fun d c5 hd5 dk5 => ?_
            obtain ⟨x, hx5, rfl⟩ := List.mem_map.mp hd5
            repeat array_get_dec
            refine ⟨_, setTup hx (by omega) (by omega), ?_⟩
            repeat array_get_dec
            refine ⟨_, _, append_ok (by rw [List.length_map]; omega), ?_⟩
            repeat array_get_dec
            have hp : OkPl cnt (x, usort xs) := ⟨hs4 x hx5, hx.usort, usort_up xs⟩
            refine ⟨k + 1, r, ps ++ [(x, usort xs)], some (.val (.int k)), some (.own (xs.map .int)), c5, rfl, by omega, by rw [List.length_append, hpl] <;> rfl, ?_, dk5, ?_⟩
            · intro p hp2
              rcases List.mem_append.mp hp2 with hp2 | hp2
              · exact hps p hp2
              · rw [List.mem_singleton.mp hp2]; exact hp
            · rw [← map_snoc] <;> rfl
  · rintro s ⟨k, r, ps, pl, nx, c, hr, hkr, hpl, hps, dk, rfl⟩
    have hr : r = 0 := by
      cases r with
      | zero => rfl
      | succ r => cases hr
    subst hr
    have hpc : ps.length = cnt := by omega
    unfold prS
    repeat array_get_dec
    exact q ps c ⟨by omega, by omega, fun p hp => hpc ▸ hps p hp⟩ (by omega) dk
end LB
set_option Elab.async false
set_option linter.all false
set_option maxRecDepth 100000
set_option maxHeartbeats 1000000
namespace LB
open PySem DM 
local macro_rules | `(tactic| array_get_dec) => `(tactic| with_reducible first
  | apply wp_seq
  | apply wp_mret
  | apply wp_set
  | apply wp_setO
  | apply wp_setV
  | apply wp_par
  | apply wp_parL
  | apply wp_parR
  | apply wp_self
  | (refine initK_nx (by with_unfolding_all rfl) ?_)
  | apply wp_expr
  | apply wp_asg
  | apply wp_next
  | apply wp_ret
  | apply wp_yes
  | apply endK_rt
  | apply endK_nx
  | apply seqK_rt
  | apply seqK_nx
  | (refine setK_in (by (simp only [List.set_cons_succ, List.set_cons_zero]; with_unfolding_all rfl)) ?_)
  | (refine setK2_in (by (simp only [List.set_cons_succ, List.set_cons_zero]; with_unfolding_all rfl)) ?_)
  | (refine putK_own (by with_unfolding_all rfl) (by (simp only [List.set_cons_succ, List.set_cons_zero]; with_unfolding_all rfl)) ?_)
  | (refine wp_var (by with_unfolding_all rfl) ?_)
  | (refine wp_varO (by with_unfolding_all rfl) (by (simp only [List.set_cons_succ, List.set_cons_zero]; with_unfolding_all rfl)) ?_)
  | apply wp_nil
  | apply wp_cons
  | apply wp_tup
  | apply wp_lst
  | apply wp_L
  | apply wp_opQ
  | (refine wp_opNQ (by with_unfolding_all rfl) ?_)
  | apply wp_opEQ
  | (refine wp_opBQ (by with_unfolding_all rfl) (by with_unfolding_all rfl) ?_)
  | (refine eqG_i (by with_unfolding_all rfl) (by with_unfolding_all rfl) ?_)
  | (refine neG_i (by with_unfolding_all rfl) (by with_unfolding_all rfl) ?_)
  | (refine eqG_of (by with_unfolding_all rfl) ?_)
  | apply wp_opA
  | (refine wp_opNA (by with_unfolding_all rfl) ?_)
  | apply wp_opEA
  | (refine wp_opBA (by with_unfolding_all rfl) (by with_unfolding_all rfl) ?_)
  | apply wp_opM
  | (refine wp_opNM (by with_unfolding_all rfl) ?_)
  | apply wp_opEM
  | (refine wp_opBM (by with_unfolding_all rfl) (by with_unfolding_all rfl) ?_)
  | apply wp_opT
  | (refine wp_opNT (by with_unfolding_all rfl) ?_)
  | apply wp_opET
  | (refine wp_opBT (by with_unfolding_all rfl) (by with_unfolding_all rfl) ?_)
  | apply wp_opF
  | (refine wp_opNF (by with_unfolding_all rfl) ?_)
  | apply wp_opEF
  | (refine wp_opBF (by with_unfolding_all rfl) (by with_unfolding_all rfl) ?_)
  | apply wp_opP
  | (refine wp_opNP (by with_unfolding_all rfl) ?_)
  | apply wp_opEP
  | (refine wp_opBP (by with_unfolding_all rfl) (by with_unfolding_all rfl) ?_)
  | (refine gAG_i (by with_unfolding_all rfl) (by with_unfolding_all rfl) ?_)
  | (refine gMG_i (by with_unfolding_all rfl) (by with_unfolding_all rfl) (by omega) ?_)
  | apply wp_op
  | (refine wp_opN (by with_unfolding_all rfl) ?_)
  | apply wp_opE
  | (refine wp_opB (by with_unfolding_all rfl) (by with_unfolding_all rfl) (by with_unfolding_all rfl) ?_)
  | apply wp_B
  | apply wp_not
  | apply wp_and
  | apply wp_or
  | apply wp_andV
  | apply wp_orV
  | apply wp_notV
  | apply wp_if
  | apply wp_ifS'
  | apply wp_chain
  | apply wp_args
  | (refine wp_look (by with_unfolding_all rfl) ?_)
  | apply wp_argF
  | apply wp_isa
  | apply wp_callS
  | apply wp_callF
  | apply wp_part
  | apply wp_neg
  | apply wp_sl
  | (refine wp_slN (by with_unfolding_all rfl) ?_)
  | (refine wp_mut (by with_unfolding_all rfl) ?_)
  | apply wp_fld
  | apply wp_call
  | apply wpC_in
  | apply wp_comp
  | (refine wpW_in (by (simp only [wipeE, List.set_cons_succ, List.set_cons_zero]; with_unfolding_all rfl)) ?_)
  | (refine backK_in (by (simp only [backE, List.getElem?_cons_zero, List.getElem?_cons_succ, List.set_cons_succ, List.set_cons_zero]; with_unfolding_all rfl)) ?_)
  | (refine wipeK_in (by (simp only [wipeE, List.set_cons_succ, List.set_cons_zero]; with_unfolding_all rfl)) ?_)
  | apply wp_rng
  | apply wp_items
  | apply wp_enum
  | apply wp_zip
  | apply wp_for
  | apply wp_lcOne
  | apply par2
  | apply wp_dcOne
  | apply wp_dcomp
  | apply wp_lcIn
  | apply wpI_in
  | (refine wpU_name (by (simp only [List.set_cons_succ, List.set_cons_zero]; with_unfolding_all rfl)) ?_)
  | (refine wpU_tup (by with_unfolding_all rfl) ?_)
  | (refine wpU_tupL (by with_unfolding_all rfl) ?_)
  | apply wpU_cons
  | apply wpU_nil
  | (refine bltG (by with_unfolding_all rfl) ?_)
  | apply wp_raiseR
  | apply wp_raise1
  | (refine smallG (by with_unfolding_all rfl) ?_)
  | apply nn_t
  | apply nn_f
  | apply bb_t
  | apply bb_f
  | apply cc_t
  | apply cc_f
  | (refine and_dt (by first | omega | (simp only [List.length_cons, List.length_nil, List.length_map]; omega)) ?_)
  | (refine and_df (by first | omega | (simp only [List.length_cons, List.length_nil, List.length_map]; omega)) ?_)
  | (refine and_dct (by first | omega | (simp only [List.length_cons, List.length_nil, List.length_map]; omega)) ?_)
  | (refine and_dcf (by first | omega | (simp only [List.length_cons, List.length_nil, List.length_map]; omega)) ?_)
  | (refine and_nt (by first | omega | (simp only [List.length_cons, List.length_nil, List.length_map]; omega)) ?_)
  | (refine and_nf (by first | omega | (simp only [List.length_cons, List.length_nil, List.length_map]; omega)) ?_)
  | apply and_it
  | apply and_if
  | (refine nonD_t (by with_unfolding_all rfl) ?_)
  | (refine nonD_f (by with_unfolding_all rfl) ?_)
  | (refine nnonD_t (by with_unfolding_all rfl) ?_)
  | (refine nnonD_f (by with_unfolding_all rfl) ?_)
  | (refine isaG_t (by with_unfolding_all rfl) ?_)
  | (refine isaG_f (by with_unfolding_all rfl) ?_)
  | (refine Exists.intro _ (And.intro (by with_unfolding_all rfl) ?_))
  | (refine Exists.intro _ (Exists.intro _ (And.intro (by with_unfolding_all rfl) (And.intro (by with_unfolding_all rfl) ?_)))))
local macro_rules | `(tactic| array_mem_dec) => `(tactic| (refine wpF_run' rfl (by (simp only [frame]; rfl)) ?_))
theorem min2_int (i j : Int) : oMin2 [.int i, .int j] = some (.int (if j < i then j else i)) := rfl
theorem some_watcher_wp {n : Nat} {cells : List Cell} {cnt : Nat} (h : Deck (n + 20) cells) (c8 : cnt ≤ 8) {Q : D → List Cell → Prop} {E : Exc → List Cell → Prop} (q : ∀ (w : Wat) c, OkW cnt w → Deck n c → Q (dWat w) c) : wpF F__law_some_watcher [.cel 0, .int cnt] cells Q E := by
  array_mem_dec
  unfold b__law_some_watcher
  repeat array_get_dec
  refine below_wp h (by omega) (by omega) fun r c r0 r1 dk => ?_
  repeat array_get_dec
  refine pick_wp dk (by simp) (by simp) fun d1 c1 hd1 dk1 => ?_
  have hg : ∃ g : Int, d1 = .int g ∧ 1 ≤ g ∧ g ≤ 30 := by
    simp only [List.mem_cons, List.not_mem_nil, or_false] at hd1
    rcases hd1 with rfl | rfl | rfl | rfl | rfl | rfl
    · exact ⟨1, rfl, by decide, by decide⟩
    · exact ⟨1, rfl, by decide, by decide⟩
    · exact ⟨1, rfl, by decide, by decide⟩
    · exact ⟨2, rfl, by decide, by decide⟩
    · exact ⟨3, rfl, by decide, by decide⟩
    · exact ⟨1 + r, rfl, by omega, by omega⟩
  obtain ⟨g, rfl, g1, g30⟩ := hg
  repeat array_get_dec
  refine pick_wp dk1 (by simp) (by simp) fun d2 c2 hd2 dk2 => ?_
  have hlo : ∃ l : Int, d2 = .int l ∧ 0 ≤ l ∧ l ≤ 7 := by
    simp only [List.mem_cons, List.not_mem_nil, or_false] at hd2
    rcases hd2 with rfl | rfl | rfl | rfl | rfl | rfl
    · exact ⟨0, rfl, by decide, by decide⟩
    · exact ⟨0, rfl, by decide, by decide⟩
    · exact ⟨1, rfl, by decide, by decide⟩
    · exact ⟨1, rfl, by decide, by decide⟩
    · exact ⟨2, rfl, by decide, by decide⟩
    · exact ⟨7, rfl, by decide, by decide⟩
  obtain ⟨l, rfl, l0, l7⟩ := hlo
  repeat array_get_dec
  unfold b__law_some_watcher_4
  repeat array_get_dec
  refine pick_wp dk2 (by simp) (by simp) fun d3 c3 hd3 dk3 => ?_
  have hhi : ∃ z : Int, d3 = .int z ∧ 0 ≤ z ∧ z ≤ 3 := by
    simp only [List.mem_cons, List.not_mem_nil, or_false] at hd3
    rcases hd3 with rfl | rfl | rfl | rfl | rfl | rfl
    · exact ⟨0, rfl, by decide, by decide⟩
    · exact ⟨0, rfl, by decide, by decide⟩
    · exact ⟨1, rfl, by decide, by decide⟩
    · exact ⟨1, rfl, by decide, by decide⟩
    · exact ⟨2, rfl, by decide, by decide⟩
    · exact ⟨3, rfl, by decide, by decide⟩
  obtain ⟨z, rfl, z0, z3⟩ := hhi
  repeat array_get_dec
  unfold b__law_some_watcher_3
  repeat array_get_dec
  unfold b__law_some_watcher_2
  repeat array_get_dec
  refine ⟨_, range_places cnt (by omega), ?_⟩
  repeat array_get_dec
  refine wp_lcSub D.int D.int (fun j c' => Deck (n + 1 + j) c') ?_ (by rw [places_len]; exact dk3.mono) ?_
  · intro x hx j c' hd
    repeat array_get_dec
    refine below_wp hd (by omega) (by omega) fun z c4 z0 z1 hd2 => ?_
    repeat array_get_dec
    refine ⟨fun _ => ?_, fun _ => ?_⟩
    · repeat array_get_dec
      exact ⟨.inr rfl, rfl, hd2⟩
    · repeat array_get_dec
      exact ⟨.inl rfl, rfl, hd2⟩
  · intro xs c' hsub hd
    have hxl : xs.length ≤ cnt := by
      have := hsub.length_le
      rw [places_len] at this
      exact this
    refine ⟨small_map (by omega), ?_⟩
    repeat array_get_dec
    unfold b__law_some_watcher_1
    repeat array_get_dec
    refine pick_wp hd (by simp) (by simp) fun d4 c4 hd4 dk4 => ?_
    have hw : ∃ o : Option Int, d4 = dOpt o ∧ ∀ v, o = some v → g ≤ v ∧ v ≤ 30 := by
      simp only [List.mem_cons, List.not_mem_nil, or_false] at hd4
      rcases hd4 with rfl | rfl | rfl | rfl | rfl
      · exact ⟨none, rfl, fun v hv => by cases hv⟩
      · exact ⟨some g, rfl, fun v hv => by cases hv; exact ⟨Int.le_refl _, g30⟩⟩
      · exact ⟨some g, rfl, fun v hv => by cases hv; exact ⟨Int.le_refl _, g30⟩⟩
      · exact ⟨some _, rfl, fun v hv => by cases hv; split <;> omega⟩
      · exact ⟨some _, rfl, fun v hv => by cases hv; split <;> omega⟩
    obtain ⟨o, rfl, ho⟩ := hw
    repeat array_get_dec
    exact q ⟨g, o, l, l + z, xs⟩ c4 ⟨g1, g30, ho, l0, by show l ≤ l + z; omega, by show l + z ≤ 30; omega, fun x hx => places_rg cnt x (hsub.subset hx), (places_up cnt).sublist hsub⟩ dk4
theorem pow6 : oPow (.int 10) (.int 6) = some (.int 1000000) := rfl
theorem pow11 : oPow (.int 10) (.int 11) = some (.int 100000000000) := rfl
theorem mul2 : oMul (.int 2) (.int 1000000) = some (.int 2000000) := mul_ok (j := 2) (k := 20) (by unfold fits; decide) (by unfold fits; decide) (by decide)
def wOk (i : Int) : Prop := i.natAbs ≤ 1000000
theorem some_weights_wp {n : Nat} {cells : List Cell} {cnt : Nat} (h : Deck (n + 20) cells) (c0 : 0 < cnt) (c8 : cnt ≤ 8) {Q : D → List Cell → Prop} {E : Exc → List Cell → Prop} (q : ∀ (ws : List Int) c, ws.length = cnt → (∀ x ∈ ws, wOk x) → Deck n c → Q (dTup ws) c) : wpF F__law_some_weights [.cel 0, .int cnt] cells Q E := by
  array_mem_dec
  unfold b__law_some_weights
  repeat array_get_dec
  refine below_wp h (by omega) (by omega) fun r c r0 r1 dk => ?_
  repeat array_get_dec
  unfold b__law_some_weights_4
  repeat array_get_dec
  refine ⟨fun _ => ?_, fun _ => ?_⟩
  · repeat array_get_dec
    refine below_wp dk (by omega) (by omega) fun r2 c2 r20 r21 dk2 => ?_
    repeat array_get_dec
    unfold b__law_some_weights_1
    repeat array_get_dec
    refine ⟨_, range_places cnt (by omega), ?_⟩
    repeat array_get_dec
    refine wp_lcM D.int (fun x => D.int (if decide (x = r2) then 1 else 0)) ?_ ?_
    · intro x _
      repeat array_get_dec
      exact ⟨rfl, rfl⟩
    · refine ⟨small_map (by rw [places_len]; omega), ?_⟩
      repeat array_get_dec
      have := q ((places cnt).map fun x => if decide (x = r2) then 1 else 0) c2 (by rw [List.length_map, places_len]) (fun y hy => by
        obtain ⟨x, _, rfl⟩ := List.mem_map.mp hy
        unfold wOk
        split <;> decide) dk2.mono
      unfold dTup at this
      rw [List.map_map] at this
      exact this
  · repeat array_get_dec
    unfold b__law_some_weights_3
    repeat array_get_dec
    refine ⟨fun _ => ?_, fun _ => ?_⟩
    · repeat array_get_dec
      refine ⟨_, range_places cnt (by omega), ?_⟩
      repeat array_get_dec
      refine wp_lcVal D.int D.int wOk (fun j c' => Deck (n + j) c') ?_ (by rw [places_len]; exact dk.mono) ?_
      · intro x hx j c' hd
        repeat array_get_dec
        refine gPG_of pow6 ?_
        repeat array_get_dec
        refine gTG_of mul2 ?_
        repeat array_get_dec
        refine below_wp hd (by decide) (by decide) fun z c4 z0 z1 hd2 => ?_
        repeat array_get_dec
        refine gPG_of pow6 ?_
        repeat array_get_dec
        exact ⟨⟨z - 1000000, rfl, by unfold wOk; omega⟩, rfl, hd2⟩
      · intro ws c' hwl hws hd
        rw [places_len] at hwl
        refine ⟨small_map (by omega), ?_⟩
        repeat array_get_dec
        exact q ws c' hwl hws hd.mono
    · repeat array_get_dec
      unfold b__law_some_weights_2
      repeat array_get_dec
      refine ⟨_, range_places cnt (by omega), ?_⟩
      repeat array_get_dec
      refine wp_lcVal D.int D.int wOk (fun j c' => Deck (n + j) c') ?_ (by rw [places_len]; exact dk.mono) ?_
      · intro x hx j c' hd
        repeat array_get_dec
        refine below_wp hd (by decide) (by decide) fun z c4 z0 z1 hd2 => ?_
        repeat array_get_dec
        exact ⟨⟨z - 2, rfl, by unfold wOk; omega⟩, rfl, hd2⟩
      · intro ws c' hwl hws hd
        rw [places_len] at hwl
        refine ⟨small_map (by omega), ?_⟩
        repeat array_get_dec
        exact q ws c' hwl hws hd.mono
structure OkOs (P : Prog) (w : Wat) (os : List Off) : Prop where
  ok : ∀ o ∈ os, offB P w o = true ∧ o.2 < 100000000000
  nd : (os.map (·.1)).Nodup
  le : os.length ≤ 6
theorem insert_ok {ds : List D} {v : D} {i : Int} (hl : ds.length ≤ 1000000) (h0 : 0 ≤ i) (h1 : i < 1000000) : fInsert ds [.int i, v] = some (.non, ds.take i.toNat ++ [v] ++ ds.drop i.toNat) := by
  unfold fInsert
  simp only [small_le hl, decide_eq_true h0, decide_eq_true (show i < 2 ^ 63 by omega), Bool.and_self, if_true]
theorem some_offers_wp {n : Nat} {cells : List Cell} {P : Prog} {w : Wat} (hP : OkP P) (hW : OkW P.length w) (h : Deck (n + 40) cells) {Q : D → List Cell → Prop} {E : Exc → List Cell → Prop} (q : ∀ (os : List Off) c, OkOs P w os → Deck n c → Q (.lst (os.map dOff)) c) : wpF F__law_some_offers [.cel 0, dProg P, dWat w, .int 6] cells Q E := by
  have hhi := hP.hi
  have hlp : (List.map dPlace P).length = P.length := List.length_map ..
  array_mem_dec
  unfold b__law_some_offers
  repeat array_get_dec
  unfold b__law_some_offers_3
  repeat array_get_dec
  rw [hlp]
  refine ⟨_, rng1 (by omega), ?_⟩
  rw [List.range_eq_range']
  refine wp_forGo (fun rem s => ∃ k r os pl pr c, rem = (List.range' k r).map (fun (i : Nat) => D.int i) ∧ k + r = P.length ∧ OkOs P w os ∧ (∀ o ∈ os, o.1 < k) ∧ Deck (n + 4 * r) c ∧
    s = ⟨[some (.val (.cel 0)), some (.val (dProg P)), some (.val (dWat w)), some (.val (.int 6)), some (.own (os.map dOff)), pl, pr], c⟩) ?_ ?_ _ _
    ⟨0, P.length, [], none, none, cells, rfl, by omega, ⟨fun o ho => (by cases ho), by simp, by simp⟩, (fun o ho => by cases ho), h.mono, rfl⟩
  · rintro d ds s ⟨k, r, os, pl, pr, c, hr, hkr, hos, hlt, dk, rfl⟩
    cases r with
    | zero => cases hr
    | succ r =>
      rw [List.range'_succ, List.map_cons] at hr
      obtain ⟨rfl, rfl⟩ := List.cons.inj hr
      have hol : (os.map dOff).length = os.length := List.length_map ..
      have hle := hos.le
      repeat array_get_dec
      unfold b__law_some_offers_2
      repeat array_get_dec
      refine ⟨_, _, rfl, in_ints _ _ _, ?_⟩
      repeat array_get_dec
      refine ⟨fun hm => ?_, fun hm => ?_⟩
      · have hm : w.marks.contains (k : Int) = false := by simpa using hm
        repeat array_get_dec
        rw [hol]
        refine ⟨fun h6 => ?_, fun h6 => ?_⟩
        · have h6 := of_decide_eq_true h6
          have dk4 : Deck (n + 4 * r + 3 + 1) c := dk.mono
          repeat array_get_dec
          refine below_wp dk4 (by decide) (by decide) fun z c1 z0 z1 dk1 => ?_
          repeat array_get_dec
          refine ⟨fun _ => ?_, fun _ => ?_⟩
          · repeat array_get_dec
            refine gPG_of pow11 ?_
            repeat array_get_dec
            refine below_wp dk1 (by decide) (by decide) fun z2 c2 z20 z21 dk2 => ?_
            repeat array_get_dec
            refine pick_wp dk2 (by simp) (by simp) fun d3 c3 hd3 dk3 => ?_
            have hp : ∃ p : Int, d3 = .int p ∧ 0 ≤ p ∧ p < 100000000000 := by
              simp only [List.mem_cons, List.not_mem_nil, or_false] at hd3
              rcases hd3 with rfl | rfl | rfl | rfl | rfl | rfl
              · exact ⟨0, rfl, by decide, by decide⟩
              · exact ⟨1, rfl, by decide, by decide⟩
              · exact ⟨1, rfl, by decide, by decide⟩
              · exact ⟨2, rfl, by decide, by decide⟩
              · exact ⟨3, rfl, by decide, by decide⟩
              · exact ⟨z2, rfl, z20, z21⟩
            obtain ⟨p, rfl, p0, p1⟩ := hp
            repeat array_get_dec
            unfold b__law_some_offers_1
            repeat array_get_dec
            rw [hol]
            refine below_wp dk3 (by omega) (by omega) fun z4 c4 z40 z41 dk4 => ?_
            repeat array_get_dec
            refine ⟨_, _, insert_ok (by omega) z40 (by omega), ?_⟩
            repeat array_get_dec
            have perm : (os.take z4.toNat ++ [((k : Int), p)] ++ os.drop z4.toNat).Perm (((k : Int), p) :: os) := by
              have := @List.perm_middle _ ((k : Int), p) (os.take z4.toNat) (os.drop z4.toNat)
              rw [List.take_append_drop] at this
              simpa using this
            have hmem : ∀ o, o ∈ (os.take z4.toNat ++ [((k : Int), p)] ++ os.drop z4.toNat) → o = ((k : Int), p) ∨ o ∈ os := fun o ho => List.mem_cons.mp (perm.mem_iff.mp ho)
            refine ⟨k + 1, r, os.take z4.toNat ++ [((k : Int), p)] ++ os.drop z4.toNat, some (.val (.int k)), some (.val (.int p)), c4, rfl, by omega, ⟨fun o ho => ?_, ?_, ?_⟩, fun o ho => ?_, dk4, ?_⟩
            · rcases hmem o ho with rfl | ho
              · refine ⟨?_, p1⟩
                unfold offB
                rw [hm]
                simp only [decide_eq_true (show (0 : Int) ≤ k by omega), decide_eq_true p0, decide_eq_true (show (k : Int) < P.length by omega), Bool.and_self, Bool.not_false]
              · exact hos.ok o ho
            · rw [(perm.map (·.1)).nodup_iff]
              rw [List.map_cons, List.nodup_cons]
              refine ⟨fun hk => ?_, hos.nd⟩
              obtain ⟨o, ho, e⟩ := List.mem_map.mp hk
              have := hlt o ho
              omega
            · rw [perm.length_eq, List.length_cons]; omega
            · rcases hmem o ho with rfl | ho
              · show (k : Int) < ((k + 1 : Nat) : Int)
                omega
              · have := hlt o ho
                omega
            · rw [List.map_append, List.map_append, List.map_take, List.map_drop] <;> rfl
          · repeat array_get_dec
            exact ⟨k + 1, r, os, some (.val (.int k)), pr, c1, rfl, by omega, hos, fun o ho => by have := hlt o ho; omega, dk1.mono, rfl⟩
        · repeat array_get_dec
          refine forK_nx ?_
          exact ⟨k + 1, r, os, some (.val (.int k)), pr, c, rfl, by omega, hos, fun o ho => by have := hlt o ho; omega, dk.mono, rfl⟩
      · repeat array_get_dec
        refine forK_nx ?_
        exact ⟨k + 1, r, os, some (.val (.int k)), pr, c, rfl, by omega, hos, fun o ho => by have := hlt o ho; omega, dk.mono, rfl⟩
  · rintro s ⟨k, r, os, pl, pr, c, hr, hkr, hos, hlt, dk, rfl⟩
    have hr : r = 0 := by
      cases r with
      | zero => rfl
      | succ r => cases hr
    subst hr
    repeat array_get_dec
    exact q os c hos dk
end LB
set_option Elab.async false
set_option linter.all false
set_option maxRecDepth 100000
set_option maxHeartbeats 1000000
namespace LB
open PySem DM 
local macro_rules | `(tactic| array_get_dec) => `(tactic| with_reducible first
  | apply wp_seq
  | apply wp_mret
  | apply wp_set
  | apply wp_setO
  | apply wp_setV
  | apply wp_par
  | apply wp_parL
  | apply wp_parR
  | apply wp_self
  | (refine initK_nx (by with_unfolding_all rfl) ?_)
  | apply wp_expr
  | apply wp_asg
  | apply wp_next
  | apply wp_ret
  | apply wp_yes
  | apply endK_rt
  | apply endK_nx
  | apply seqK_rt
  | apply seqK_nx
  | (refine setK_in (by (simp only [List.set_cons_succ, List.set_cons_zero]; with_unfolding_all rfl)) ?_)
  | (refine setK2_in (by (simp only [List.set_cons_succ, List.set_cons_zero]; with_unfolding_all rfl)) ?_)
  | (refine putK_own (by with_unfolding_all rfl) (by (simp only [List.set_cons_succ, List.set_cons_zero]; with_unfolding_all rfl)) ?_)
  | (refine wp_var (by with_unfolding_all rfl) ?_)
  | (refine wp_varO (by with_unfolding_all rfl) (by (simp only [List.set_cons_succ, List.set_cons_zero]; with_unfolding_all rfl)) ?_)
  | apply wp_nil
  | apply wp_cons
  | apply wp_tup
  | apply wp_lst
  | apply wp_L
  | apply wp_opQ
  | (refine wp_opNQ (by with_unfolding_all rfl) ?_)
  | apply wp_opEQ
  | (refine wp_opBQ (by with_unfolding_all rfl) (by with_unfolding_all rfl) ?_)
  | (refine eqG_i (by with_unfolding_all rfl) (by with_unfolding_all rfl) ?_)
  | (refine neG_i (by with_unfolding_all rfl) (by with_unfolding_all rfl) ?_)
  | (refine eqG_of (by with_unfolding_all rfl) ?_)
  | apply wp_opA
  | (refine wp_opNA (by with_unfolding_all rfl) ?_)
  | apply wp_opEA
  | (refine wp_opBA (by with_unfolding_all rfl) (by with_unfolding_all rfl) ?_)
  | apply wp_opM
  | (refine wp_opNM (by with_unfolding_all rfl) ?_)
  | apply wp_opEM
  | (refine wp_opBM (by with_unfolding_all rfl) (by with_unfolding_all rfl) ?_)
  | apply wp_opT
  | (refine wp_opNT (by with_unfolding_all rfl) ?_)
  | apply wp_opET
  | (refine wp_opBT (by with_unfolding_all rfl) (by with_unfolding_all rfl) ?_)
  | apply wp_opF
  | (refine wp_opNF (by with_unfolding_all rfl) ?_)
  | apply wp_opEF
  | (refine wp_opBF (by with_unfolding_all rfl) (by with_unfolding_all rfl) ?_)
  | apply wp_opP
  | (refine wp_opNP (by with_unfolding_all rfl) ?_)
  | apply wp_opEP
  | (refine wp_opBP (by with_unfolding_all rfl) (by with_unfolding_all rfl) ?_)
  | (refine gAG_i (by with_unfolding_all rfl) (by with_unfolding_all rfl) ?_)
  | (refine gMG_i (by with_unfolding_all rfl) (by with_unfolding_all rfl) (by omega) ?_)
  | apply wp_op
  | (refine wp_opN (by with_unfolding_all rfl) ?_)
  | apply wp_opE
  | (refine wp_opB (by with_unfolding_all rfl) (by with_unfolding_all rfl) (by with_unfolding_all rfl) ?_)
  | apply wp_B
  | apply wp_not
  | apply wp_and
  | apply wp_or
  | apply wp_andV
  | apply wp_orV
  | apply wp_notV
  | apply wp_if
  | apply wp_ifS'
  | apply wp_chain
  | apply wp_args
  | (refine wp_look (by with_unfolding_all rfl) ?_)
  | apply wp_argF
  | apply wp_isa
  | apply wp_callS
  | apply wp_callF
  | apply wp_part
  | apply wp_neg
  | apply wp_sl
  | (refine wp_slN (by with_unfolding_all rfl) ?_)
  | (refine wp_mut (by with_unfolding_all rfl) ?_)
  | apply wp_fld
  | apply wp_call
  | apply wpC_in
  | apply wp_comp
  | (refine wpW_in (by (simp only [wipeE, List.set_cons_succ, List.set_cons_zero]; with_unfolding_all rfl)) ?_)
  | (refine backK_in (by (simp only [backE, List.getElem?_cons_zero, List.getElem?_cons_succ, List.set_cons_succ, List.set_cons_zero]; with_unfolding_all rfl)) ?_)
  | (refine wipeK_in (by (simp only [wipeE, List.set_cons_succ, List.set_cons_zero]; with_unfolding_all rfl)) ?_)
  | apply wp_rng
  | apply wp_items
  | apply wp_enum
  | apply wp_zip
  | apply wp_for
  | apply wp_lcOne
  | apply par2
  | apply leaves_rt
  | apply wp_dcOne
  | apply wp_dcomp
  | apply wp_lcIn
  | apply wpI_in
  | (refine wpU_name (by (simp only [List.set_cons_succ, List.set_cons_zero]; with_unfolding_all rfl)) ?_)
  | (refine wpU_tup (by with_unfolding_all rfl) ?_)
  | (refine wpU_tupL (by with_unfolding_all rfl) ?_)
  | apply wpU_cons
  | apply wpU_nil
  | (refine bltG (by with_unfolding_all rfl) ?_)
  | apply wp_raiseR
  | apply wp_raise1
  | (refine smallG (by with_unfolding_all rfl) ?_)
  | apply nn_t
  | apply nn_f
  | apply bb_t
  | apply bb_f
  | apply cc_t
  | apply cc_f
  | (refine and_dt (by first | omega | (simp only [List.length_cons, List.length_nil, List.length_map]; omega)) ?_)
  | (refine and_df (by first | omega | (simp only [List.length_cons, List.length_nil, List.length_map]; omega)) ?_)
  | (refine and_dct (by first | omega | (simp only [List.length_cons, List.length_nil, List.length_map]; omega)) ?_)
  | (refine and_dcf (by first | omega | (simp only [List.length_cons, List.length_nil, List.length_map]; omega)) ?_)
  | (refine and_nt (by first | omega | (simp only [List.length_cons, List.length_nil, List.length_map]; omega)) ?_)
  | (refine and_nf (by first | omega | (simp only [List.length_cons, List.length_nil, List.length_map]; omega)) ?_)
  | apply and_it
  | apply and_if
  | (refine nonD_t (by with_unfolding_all rfl) ?_)
  | (refine nonD_f (by with_unfolding_all rfl) ?_)
  | (refine nnonD_t (by with_unfolding_all rfl) ?_)
  | (refine nnonD_f (by with_unfolding_all rfl) ?_)
  | (refine isaG_t (by with_unfolding_all rfl) ?_)
  | (refine isaG_f (by with_unfolding_all rfl) ?_)
  | (refine Exists.intro _ (And.intro (by with_unfolding_all rfl) ?_))
  | (refine Exists.intro _ (Exists.intro _ (And.intro (by with_unfolding_all rfl) (And.intro (by with_unfolding_all rfl) ?_)))))
local macro_rules | `(tactic| array_mem_dec) => `(tactic| (refine wpF_run' rfl (by (simp only [frame]; rfl)) ?_))
theorem sOk_app {x y : Str} (hx : PyData.strOk x = true) (hy : PyData.strOk y = true) : PyData.strOk (x ++ y) = true := by
  unfold PyData.strOk at *
  show (x.cps ++ y.cps).all _ = true
  rw [Array.all_append, hx, hy] <;> rfl
theorem sOk_of (s : String) : PyData.strOk (Str.ofString s) = true := by
  rw [Str.ofString_eq_toList]
  unfold PyData.strOk
  simp only [List.all_toArray, List.all_map, List.all_eq_true, Function.comp, decide_eq_true_eq]
  intro c _
  have := c.valid
  have e : c.toNat = c.val.toNat := rfl
  rw [e]
  rcases this with h | h
  · have : c.val.toNat < 0xd800 := h
    omega
  · exact h.2
theorem sOk_textFrom : ∀ (ts : List Str) (k : Nat) (acc : Str), PyData.strOk acc = true → (∀ t ∈ ts, PyData.strOk t = true) → PyData.strOk (textFrom k acc ts) = true
  | [], _, _, ha, _ => ha
  | t :: ts, k, acc, ha, h => sOk_textFrom ts (k + 1) _ (sOk_app (sOk_app ha (sOk_of _)) (h t List.mem_cons_self)) fun z hz => h z (List.mem_cons_of_mem _ hz)
theorem sOk_join (sep : Str) (hs : PyData.strOk sep = true) : ∀ ts : List Str, (∀ t ∈ ts, PyData.strOk t = true) → PyData.strOk (Str.join sep ts) = true
  | [], _ => by show PyData.strOk Str.empty = true; decide +kernel
  | [x], h => h x List.mem_cons_self
  | x :: y :: r, h => by
    show PyData.strOk (x ++ sep ++ Str.join sep (y :: r)) = true
    exact sOk_app (sOk_app (h x List.mem_cons_self) hs) (sOk_join sep hs (y :: r) fun z hz => h z (List.mem_cons_of_mem _ hz))
structure Pr (n k : Nat) (d : D) : Prop where
  ex : ∃ p, toPyX d = some p ∧ p.showable = true ∧ p.depth ≤ n ∧ p.shown.length ≤ k ∧ PyData.strOk p.shown = true
theorem Pr.mono {n k n' k' : Nat} {d : D} (h : Pr n k d) (hn : n ≤ n' := by omega) (hk : k ≤ k' := by omega) : Pr n' k' d := by
  obtain ⟨p, a, b, c, e, f⟩ := h
  exact ⟨p, a, b, Nat.le_trans c hn, Nat.le_trans e hk, f⟩
theorem pr_int {i : Int} (h : i.natAbs.log2 < 50) : Pr 0 60 (.int i) := by
  refine ⟨.int i, by simp only [toPyX], ?_, by simp only [PyData.depth]; exact Nat.le_refl _, ?_, by simp only [PyData.shown]; exact sOk_of _⟩
  · simp only [PyData.showable]
    exact decide_eq_true (by omega)
  · have h1 := int_text_length_le (a := i) (k := 50) (by decide) h
    have h3 : ((toString i : String) : Str).length = (toString i : String).length := PySem.ofString_length _
    simp only [PyData.shown]
    rw [h3]
    omega
theorem pr_non : Pr 0 60 .non := ⟨.none, by simp only [toPyX], by simp only [PyData.showable], by simp only [PyData.depth]; exact Nat.le_refl _, by simp only [PyData.shown]; decide +kernel, by simp only [PyData.shown]; decide +kernel⟩
theorem pr_bl (b : Bool) : Pr 0 60 (.bl b) := ⟨.bool b, by simp only [toPyX], by simp only [PyData.showable], by simp only [PyData.depth]; exact Nat.le_refl _, by
  simp only [PyData.shown]
  cases b <;> decide +kernel, by
  simp only [PyData.shown]
  cases b <;> decide +kernel⟩
theorem pr_str {x : Str} (h : ((reprText x).length ≤ 60 ∧ PyData.strOk (reprText x) = true)) : Pr 0 60 (.str x) := ⟨.str x, by simp only [toPyX], by simp only [PyData.showable], by simp only [PyData.depth]; exact Nat.le_refl _, by simp only [PyData.shown]; exact h.1, by simp only [PyData.shown]; exact h.2⟩
theorem pr_dic0 : Pr 1 60 (.dicK []) := by
  refine ⟨.dict [], by simp only [toPyX, toPyXK, Option.map_some], by simp only [PyData.showable, PyData.showableKv], by simp only [PyData.depth, PyData.depthKv]; exact Nat.le_refl _, ?_, ?_⟩
  · simp only [PyData.shown, PyData.shownKv]
    decide +kernel
  · simp only [PyData.shown, PyData.shownKv]
    decide +kernel
theorem pr_all {n k : Nat} : ∀ ds : List D, (∀ d ∈ ds, Pr n k d) → ∃ ps, toPyXL ds = some ps ∧ PyData.showableAll ps = true ∧ PyData.depthAll ps ≤ n ∧ piled (PyData.shownAll ps) ≤ (k + 2) * ds.length ∧ ∀ t ∈ PyData.shownAll ps, PyData.strOk t = true
  | [], _ => ⟨[], by simp only [toPyXL], by simp only [PyData.showableAll], by simp only [PyData.depthAll]; exact Nat.zero_le _, by simp only [PyData.shownAll, piled_nil]; exact Nat.zero_le _, by simp only [PyData.shownAll]; intro t ht; cases ht⟩
  | d :: ds, h => by
    obtain ⟨p, h1, h2, h3, h4, h5⟩ := h d List.mem_cons_self
    obtain ⟨ps, k1, k2, k3, k4, k5⟩ := pr_all ds fun z hz => h z (List.mem_cons_of_mem _ hz)
    refine ⟨p :: ps, by simp only [toPyXL, h1, k1], by simp only [PyData.showableAll, h2, k2, Bool.and_self], ?_, ?_, ?_⟩
    · simp only [PyData.depthAll]
      exact Nat.max_le.mpr ⟨h3, k3⟩
    · simp only [PyData.shownAll]
      rw [piled_cons, List.length_cons, Nat.mul_succ]
      omega
    · simp only [PyData.shownAll]
      intro t ht
      rcases List.mem_cons.mp ht with rfl | ht
      · exact h5
      · exact k5 t ht
theorem listText_le (ts : List Str) : (listText ts).length ≤ piled ts + 2 := by
  cases ts with
  | nil => rw [listText_nil]; decide +kernel
  | cons t r =>
    have e1 : (listText (t :: r)).length = (textFrom 1 (("[" : Str) ++ ("" : Str) ++ t) r).length + 1 := by
      show (textFrom 1 _ r ++ ("]" : Str)).length = _
      rw [strLen_append] <;> rfl
    rw [e1, textFrom_length_pos r 1 _ (by decide), strLen_append, strLen_append, piled_cons]
    have h1 : ("[" : Str).length = 1 := by decide +kernel
    have h2 : ("" : Str).length = 0 := by decide +kernel
    omega
theorem tupleText_le (ts : List Str) : (tupleText ts).length ≤ piled ts + 5 := by
  unfold tupleText
  rw [strLen_append, strLen_append]
  have h1 : ("(" : Str).length = 1 := by decide +kernel
  have h2 : ((if ts.length == 1 then ",)" else ")" : String) : Str).length ≤ 2 := by split <;> decide +kernel
  by_cases h : ts = []
  · subst h
    have h3 : (Str.join ", " ([] : List Str)).length = 0 := by decide +kernel
    omega
  · have := join_length_add ts h
    omega
theorem pr_lst {n k : Nat} {ds : List D} (h : ∀ d ∈ ds, Pr n k d) : Pr (n + 1) ((k + 2) * ds.length + 5) (.lst ds) := by
  obtain ⟨ps, k1, k2, k3, k4, k5⟩ := pr_all ds h
  refine ⟨.list ps, by rw [toPyX_lst, k1] <;> rfl, by simp only [PyData.showable, k2], by simp only [PyData.depth]; omega, ?_, ?_⟩
  · simp only [PyData.shown]
    have := listText_le (PyData.shownAll ps)
    omega
  · simp only [PyData.shown]
    exact sOk_app (sOk_textFrom _ _ _ (sOk_of _) k5) (sOk_of _)
theorem pr_tup {n k : Nat} {ds : List D} (h : ∀ d ∈ ds, Pr n k d) : Pr (n + 1) ((k + 2) * ds.length + 5) (.tup ds) := by
  obtain ⟨ps, k1, k2, k3, k4, k5⟩ := pr_all ds h
  refine ⟨.tuple ps, by rw [toPyX_tup, k1] <;> rfl, by simp only [PyData.showable, k2], by simp only [PyData.depth]; omega, ?_, ?_⟩
  · simp only [PyData.shown]
    have := tupleText_le (PyData.shownAll ps)
    omega
  · simp only [PyData.shown]
    exact sOk_app (sOk_app (sOk_of _) (sOk_join _ (sOk_of _) _ k5)) (sOk_of _)
theorem pr_repr {n k : Nat} {d : D} (h : Pr n k d) (hh : heavyD d = true) (hn : n < 60) (hk : k ≤ 1000000) : ∃ x, oRepr [d] = some (.str x) ∧ PyData.strOk x = true := by
  obtain ⟨p, h1, h2, h3, h4, h5⟩ := h
  refine ⟨p.shown, ?_, h5⟩
  unfold oRepr okRepr
  have a : Nat.blt p.depth 60 = true := Nat.ble_eq_true_of_le (Nat.lt_of_le_of_lt h3 hn)
  have b : Nat.ble p.shown.length 1000000 = true := Nat.ble_eq_true_of_le (Nat.le_trans h4 hk)
  simp only [hh, h1, h2, a, b, Bool.and_self, if_true]
theorem pr_ints {xs : List Int} (h : ∀ x ∈ xs, x.natAbs.log2 < 50) : Pr 1 (62 * xs.length + 5) (dTup xs) := by
  have := pr_tup (n := 0) (k := 60) (ds := xs.map .int) (fun d hd => by
    obtain ⟨x, hx, rfl⟩ := List.mem_map.mp hd
    exact pr_int (h x hx))
  rw [List.length_map] at this
  exact this
end LB
set_option Elab.async false
set_option linter.all false
set_option maxRecDepth 100000
set_option maxHeartbeats 1000000
namespace LB
open PySem DM L2
local macro_rules | `(tactic| array_get_dec) => `(tactic| with_reducible first
  | apply wp_seq
  | apply wp_mret
  | apply wp_set
  | apply wp_setO
  | apply wp_setV
  | apply wp_par
  | apply wp_parL
  | apply wp_parR
  | apply wp_self
  | (refine initK_nx (by with_unfolding_all rfl) ?_)
  | apply wp_expr
  | apply wp_asg
  | apply wp_next
  | apply wp_ret
  | apply wp_yes
  | apply endK_rt
  | apply endK_nx
  | apply seqK_rt
  | apply seqK_nx
  | (refine setK_in (by (simp only [List.set_cons_succ, List.set_cons_zero]; with_unfolding_all rfl)) ?_)
  | (refine setK2_in (by (simp only [List.set_cons_succ, List.set_cons_zero]; with_unfolding_all rfl)) ?_)
  | (refine putK_own (by with_unfolding_all rfl) (by (simp only [List.set_cons_succ, List.set_cons_zero]; with_unfolding_all rfl)) ?_)
  | (refine wp_var (by with_unfolding_all rfl) ?_)
  | (refine wp_varO (by with_unfolding_all rfl) (by (simp only [List.set_cons_succ, List.set_cons_zero]; with_unfolding_all rfl)) ?_)
  | apply wp_nil
  | apply wp_cons
  | apply wp_tup
  | apply wp_lst
  | apply wp_L
  | apply wp_opQ
  | (refine wp_opNQ (by with_unfolding_all rfl) ?_)
  | apply wp_opEQ
  | (refine wp_opBQ (by with_unfolding_all rfl) (by with_unfolding_all rfl) ?_)
  | (refine eqG_i (by with_unfolding_all rfl) (by with_unfolding_all rfl) ?_)
  | (refine neG_i (by with_unfolding_all rfl) (by with_unfolding_all rfl) ?_)
  | (refine eqG_of (by with_unfolding_all rfl) ?_)
  | apply wp_opA
  | (refine wp_opNA (by with_unfolding_all rfl) ?_)
  | apply wp_opEA
  | (refine wp_opBA (by with_unfolding_all rfl) (by with_unfolding_all rfl) ?_)
  | apply wp_opM
  | (refine wp_opNM (by with_unfolding_all rfl) ?_)
  | apply wp_opEM
  | (refine wp_opBM (by with_unfolding_all rfl) (by with_unfolding_all rfl) ?_)
  | apply wp_opT
  | (refine wp_opNT (by with_unfolding_all rfl) ?_)
  | apply wp_opET
  | (refine wp_opBT (by with_unfolding_all rfl) (by with_unfolding_all rfl) ?_)
  | apply wp_opF
  | (refine wp_opNF (by with_unfolding_all rfl) ?_)
  | apply wp_opEF
  | (refine wp_opBF (by with_unfolding_all rfl) (by with_unfolding_all rfl) ?_)
  | apply wp_opP
  | (refine wp_opNP (by with_unfolding_all rfl) ?_)
  | apply wp_opEP
  | (refine wp_opBP (by with_unfolding_all rfl) (by with_unfolding_all rfl) ?_)
  | (refine gAG_i (by with_unfolding_all rfl) (by with_unfolding_all rfl) ?_)
  | (refine gMG_i (by with_unfolding_all rfl) (by with_unfolding_all rfl) (by omega) ?_)
  | apply wp_op
  | (refine wp_opN (by with_unfolding_all rfl) ?_)
  | apply wp_opE
  | (refine wp_opB (by with_unfolding_all rfl) (by with_unfolding_all rfl) (by with_unfolding_all rfl) ?_)
  | apply wp_B
  | apply wp_not
  | apply wp_and
  | apply wp_or
  | apply wp_andV
  | apply wp_orV
  | apply wp_notV
  | apply wp_if
  | apply wp_ifS'
  | apply wp_chain
  | apply wp_args
  | (refine wp_look (by with_unfolding_all rfl) ?_)
  | apply wp_argF
  | apply wp_isa
  | apply wp_callS
  | apply wp_callF
  | apply wp_part
  | apply wp_neg
  | apply wp_sl
  | (refine wp_slN (by with_unfolding_all rfl) ?_)
  | (refine wp_mut (by with_unfolding_all rfl) ?_)
  | apply wp_fld
  | apply wp_call
  | apply wpC_in
  | apply wp_comp
  | (refine wpW_in (by (simp only [wipeE, List.set_cons_succ, List.set_cons_zero]; with_unfolding_all rfl)) ?_)
  | (refine backK_in (by (simp only [backE, List.getElem?_cons_zero, List.getElem?_cons_succ, List.set_cons_succ, List.set_cons_zero]; with_unfolding_all rfl)) ?_)
  | (refine wipeK_in (by (simp only [wipeE, List.set_cons_succ, List.set_cons_zero]; with_unfolding_all rfl)) ?_)
  | apply wp_rng
  | apply wp_items
  | apply wp_enum
  | apply wp_zip
  | apply wp_for
  | apply wp_lcOne
  | apply par2
  | apply leaves_rt
  | apply wp_dcOne
  | apply wp_dcomp
  | apply wp_lcIn
  | apply wpI_in
  | (refine wpU_name (by (simp only [List.set_cons_succ, List.set_cons_zero]; with_unfolding_all rfl)) ?_)
  | (refine wpU_tup (by with_unfolding_all rfl) ?_)
  | (refine wpU_tupL (by with_unfolding_all rfl) ?_)
  | apply wpU_cons
  | apply wpU_nil
  | (refine bltG (by with_unfolding_all rfl) ?_)
  | apply wp_raiseR
  | apply wp_raise1
  | (refine smallG (by with_unfolding_all rfl) ?_)
  | apply nn_t
  | apply nn_f
  | apply bb_t
  | apply bb_f
  | apply cc_t
  | apply cc_f
  | (refine and_dt (by first | omega | (simp only [List.length_cons, List.length_nil, List.length_map]; omega)) ?_)
  | (refine and_df (by first | omega | (simp only [List.length_cons, List.length_nil, List.length_map]; omega)) ?_)
  | (refine and_dct (by first | omega | (simp only [List.length_cons, List.length_nil, List.length_map]; omega)) ?_)
  | (refine and_dcf (by first | omega | (simp only [List.length_cons, List.length_nil, List.length_map]; omega)) ?_)
  | (refine and_nt (by first | omega | (simp only [List.length_cons, List.length_nil, List.length_map]; omega)) ?_)
  | (refine and_nf (by first | omega | (simp only [List.length_cons, List.length_nil, List.length_map]; omega)) ?_)
  | apply and_it
  | apply and_if
  | (refine nonD_t (by with_unfolding_all rfl) ?_)
  | (refine nonD_f (by with_unfolding_all rfl) ?_)
  | (refine nnonD_t (by with_unfolding_all rfl) ?_)
  | (refine nnonD_f (by with_unfolding_all rfl) ?_)
  | (refine isaG_t (by with_unfolding_all rfl) ?_)
  | (refine isaG_f (by with_unfolding_all rfl) ?_)
  | (refine Exists.intro _ (And.intro (by with_unfolding_all rfl) ?_))
  | (refine Exists.intro _ (Exists.intro _ (And.intro (by with_unfolding_all rfl) (And.intro (by with_unfolding_all rfl) ?_)))))
local macro_rules | `(tactic| array_mem_dec) => `(tactic| (refine wpF_run' rfl (by (simp only [frame]; rfl)) ?_))
theorem scr_to (ns : List Int) : oSl (.scr ns) none (some 16) = some (.lst ((ns.take 16).map .int)) := by
  have := cutD_to (ns.map D.int) 16
  unfold cutD at this
  rw [List.length_map] at this
  show some (D.lst _) = _
  rw [List.map_take]
  exact congrArg (fun z => some (D.lst z)) this
theorem scr_mid (ns : List Int) (hl : ns.length ≤ 63) : oSl (.scr ns) (some 16) (some 63) = some (.lst ((ns.drop 16).map .int)) := by
  show some (D.lst (((ns.map D.int).drop (HT.sIx ns.length 0 (some ((16 : Nat) : Int)))).take (HT.sIx ns.length ns.length (some ((63 : Nat) : Int)) - HT.sIx ns.length 0 (some ((16 : Nat) : Int))))) = _
  rw [HT.sIx_nat, HT.sIx_nat, Nat.min_eq_right hl]
  congr 2
  rw [List.map_drop]
  by_cases h : 16 ≤ ns.length
  · rw [Nat.min_eq_left h]
    exact List.take_of_length_le (by rw [List.length_drop, List.length_map]; exact Nat.le_refl _)
  · rw [Nat.min_eq_right (by omega), Nat.sub_self, List.take_zero, List.drop_eq_nil_of_le (by rw [List.length_map]; omega)]
theorem scr_to' (ns : List Int) : ((ns.map D.int).drop (HT.sIx ns.length 0 none)).take (HT.sIx ns.length ns.length (some 16) - HT.sIx ns.length 0 none) = (ns.take 16).map .int := by
  have h := scr_to ns
  unfold oSl at h
  exact D.lst.inj (Option.some.inj h)
theorem scr_mid' (ns : List Int) (hl : ns.length ≤ 63) : ((ns.map D.int).drop (HT.sIx ns.length 0 (some 16))).take (HT.sIx ns.length ns.length (some 63) - HT.sIx ns.length 0 (some 16)) = (ns.drop 16).map .int := by
  have h := scr_mid ns hl
  unfold oSl at h
  exact D.lst.inj (Option.some.inj h)
def enumI2 (k : Nat) (xs : List Int) : List D := (xs.zipIdx k).map fun p => D.tup [.int p.2, .int p.1]
theorem enum_ints (xs : List Int) : enumL (xs.map D.int) = enumI2 0 xs := by
  unfold enumL enumI2
  rw [List.zipIdx_map, List.map_map]
  rfl
theorem deck_of_wp {ns : List Int} (hl : ns.length ≤ 63) {n : Nat} (hn : n ≤ 2 ^ 60) {Q : D → List Cell → Prop} {E : Exc → List Cell → Prop} (q : ∀ c, Deck n c → Q (.cel 0) c) : wpF F__law_deck_of [.scr ns] [] Q E := by
  array_mem_dec
  unfold b__law_deck_of
  repeat array_get_dec
  rw [scr_to']
  refine wp_lcM D.int (fun x => D.int (if x < 0 then -x else x)) ?_ ?_
  · intro x _
    repeat array_get_dec
    exact ⟨rfl, rfl⟩
  · refine ⟨small_map (by rw [List.length_take]; omega), ?_⟩
    repeat array_get_dec
    unfold b__law_deck_of_3
    repeat array_get_dec
    rw [scr_mid' ns hl]
    rw [enum_ints]
    refine wp_forGo (fun rem s => ∃ k xs cs e1 e3, rem = enumI2 k xs ∧ (xs ≠ [] → List.length cs = 16) ∧ (∀ z ∈ cs, (0 : Int) ≤ z) ∧ s = ⟨[some (.val (.scr ns)), e1, some (.own (cs.map .int)), e3], []⟩) ?_ ?_ _ _
      ⟨0, ns.drop 16, (ns.take 16).map fun x => if x < 0 then -x else x, none, none, rfl, ?_, ?_, ?_⟩
    · rintro d ds s ⟨k, xs, cs, e1, e3, hr, hcl, hz, rfl⟩
      cases xs with
      | nil => cases hr
      | cons x xs =>
        have hr' : d :: ds = D.tup [.int k, .int x] :: enumI2 (k + 1) xs := hr
        obtain ⟨rfl, rfl⟩ := List.cons.inj hr'
        have h16 := hcl (by simp)
        have hk16 : ((k : Int) % 16).toNat < cs.length := by omega
        have hk0 : (0 : Int) ≤ (k : Int) % 16 := by omega
        repeat array_get_dec
        unfold b__law_deck_of_1
        repeat array_get_dec
        have e := (ix_ok (ds := cs.map D.int) (i := ((k : Int) % 16).toNat) (d := .int cs[((k : Int) % 16).toNat]) (by rw [List.getElem?_map, List.getElem?_eq_getElem hk16] <;> rfl)).1
        rw [Int.toNat_of_nonneg hk0] at e
        refine ⟨_, _, rfl, e, ?_⟩
        repeat array_get_dec
        refine wpU_sub (n := 0) (ds := cs.map .int) (k := (k : Int) % 16) (j := ((k : Int) % 16).toNat) (mOpN_ok rfl rfl rfl (mod_ok (by decide))) rfl ?_ rfl ?_
        · unfold L2.ixN
          rw [if_pos hk0, if_pos (by rw [List.length_map]; omega)]
        · repeat array_get_dec
          refine ⟨k + 1, xs, cs.set ((k : Int) % 16).toNat (cs[((k : Int) % 16).toNat] + (if x < 0 then -x else x)), some (.val (.int x)), some (.val (.int k)), rfl, fun _ => by rw [List.length_set]; exact h16, ?_, ?_⟩
          · intro z hz2
            rcases List.mem_or_eq_of_mem_set hz2 with h | h
            · exact hz z h
            · have := hz _ (List.getElem_mem hk16)
              rw [h]
              split <;> omega
          · rw [List.map_set] <;> rfl
    · rintro s ⟨k, xs, cs, e1, e3, hr, hcl, hz, rfl⟩
      repeat array_get_dec
      unfold b__law_deck_of_2
      repeat array_get_dec
      refine wp_alloc ?_
      repeat array_get_dec
      exact q [deckC cs 0 0 0] ⟨cs, 0, 0, 0, rfl, hz, by decide, by omega, by decide, by decide⟩
    · intro h
      rw [List.length_map, List.length_take]
      have : ¬ (ns.drop 16).length = 0 := fun z => h (List.length_eq_zero_iff.mp z)
      rw [List.length_drop] at this
      omega
    · intro z hz
      obtain ⟨x, _, rfl⟩ := List.mem_map.mp hz
      split <;> omega
    · rw [List.map_map] <;> rfl
inductive OddW (n : Nat) : D → Prop
  | tup {ds : List D} (hk : ∀ x ∈ ds, kindD x = true) (hl : ds.length ≤ 100) (bad : ¬(ds.length = n ∧ ds.all weightB = true)) : OddW n (.tup ds)
  | other {d : D} (hk : isaXs.contains (tyD d) = true) (ht : tyD d ≠ "tuple") : OddW n d
theorem need_weights_odd {P : Prog} (h : OkP P) {w : Wat} {d : D} (ho : OddW P.length d) (cells : List Cell) : F_need_weights [dSrc P w, d] cells = .exc nwExc cells := by
  cases ho with
  | tup hk hl bad => exact wpF_excEq ((need_weights_tup h hk hl cells).imp (fun d c z => bad z.2.2) fun e c z => ⟨z.1, z.2.1⟩)
  | other hk ht => exact need_weights_other hk ht cells
theorem kind_int (xs : List Int) : ∀ x ∈ xs.map D.int, kindD x = true := fun x hx => by
  obtain ⟨i, _, rfl⟩ := List.mem_map.mp hx
  rfl
theorem wOk_log {i : Int} (h : wOk i) : i.natAbs.log2 < 50 := by
  unfold wOk at h
  by_cases hz : i.natAbs = 0
  · rw [hz]; decide
  · exact (Nat.log2_lt hz).mpr (by omega)
theorem log_small {i : Int} (h : i.natAbs < 2 ^ 40) : i.natAbs.log2 < 50 := by
  by_cases hz : i.natAbs = 0
  · rw [hz]; decide
  · exact (Nat.log2_lt hz).mpr (by omega)
theorem pr_dTup {xs : List Int} (h : ∀ x ∈ xs, x.natAbs < 2 ^ 40) (hl : xs.length ≤ 20) : Pr 1 2000 (dTup xs) := (pr_ints fun x hx => log_small (h x hx)).mono (by omega) (by omega)
theorem addD_ok (xs ys : List D) (h : xs.length + ys.length ≤ 1000000) : oAdd (.tup xs) (.tup ys) = some (.tup (xs ++ ys)) := by
  have h1 : small (xs ++ ys) = true := small_le (by rw [List.length_append]; exact h)
  unfold oAdd orO oAddI oI oAddS oAddL oAddT
  simp only [h1, if_true]
theorem addLst_ok (xs ys : List D) (h : xs.length + ys.length ≤ 1000000) : oAdd (.lst xs) (.lst ys) = some (.lst (xs ++ ys)) := by
  have h1 : small (xs ++ ys) = true := small_le (by rw [List.length_append]; exact h)
  unfold oAdd orO oAddI oI oAddS oAddL
  simp only [h1, if_true]
theorem odd_weights_wp {n : Nat} {cells : List Cell} {ws : List Int} (h : Deck (n + 5) cells) (h0 : 0 < ws.length) (h8 : ws.length ≤ 8) (hw : ∀ x ∈ ws, wOk x) {Q : D → List Cell → Prop} {E : Exc → List Cell → Prop} (q : ∀ d c, OddW ws.length d → Pr 3 20000 d → Deck n c → Q d c) : wpF F__law_odd_weights [.cel 0, dTup ws] cells Q E := by
  have hwl : (ws.map D.int).length = ws.length := List.length_map ..
  have hws : ∀ x ∈ ws, x.natAbs < 2 ^ 40 := fun x hx => by
    have := hw x hx
    unfold wOk at this
    omega
  array_mem_dec
  unfold b__law_odd_weights
  repeat array_get_dec
  rw [hwl]
  refine below_wp h (by omega) (by omega) fun at_ c1 a0 a1 dk1 => ?_
  repeat array_get_dec
  unfold b__law_odd_weights_4
  repeat array_get_dec
  refine gPG_of pow6 ?_
  repeat array_get_dec
  refine gPG_of pow6 ?_
  repeat array_get_dec
  refine pick_wp dk1 (by simp) (by simp) fun o c2 ho dk2 => ?_
  have hod : kindD o = true ∧ weightB o = false ∧ Pr 1 100 o := by
    simp only [List.mem_cons, List.not_mem_nil, or_false] at ho
    rcases ho with rfl | rfl | rfl | rfl | rfl | rfl | rfl
    · exact ⟨rfl, rfl, pr_non.mono⟩
    · exact ⟨rfl, rfl, (pr_bl true).mono⟩
    · exact ⟨rfl, rfl, (pr_str (by decide +kernel)).mono⟩
    · exact ⟨rfl, rfl, (pr_int (log_small (by decide))).mono⟩
    · exact ⟨rfl, rfl, (pr_int (log_small (by decide))).mono⟩
    · exact ⟨rfl, rfl, (pr_tup (n := 0) (k := 60) (ds := [.int 1]) (fun d hd => by rw [List.mem_singleton.mp hd]; exact pr_int (log_small (by decide)))).mono (by decide) (by decide)⟩
    · exact ⟨rfl, rfl, (pr_lst (n := 0) (k := 60) (ds := [.int 1]) (fun d hd => by rw [List.mem_singleton.mp hd]; exact pr_int (log_small (by decide)))).mono (by decide) (by decide)⟩
  obtain ⟨ok, ow, op⟩ := hod
  repeat array_get_dec
  unfold b__law_odd_weights_3
  repeat array_get_dec
  refine ⟨_, rfl, ?_⟩
  repeat array_get_dec
  refine gAG_of (addT_ok ws [0] (by simp; omega)) ?_
  repeat array_get_dec
  have ecut : cutD (ws.map D.int) (some 1) none = (ws.drop 1).map D.int := by
    rw [show (1 : Int) = ((1 : Nat) : Int) from rfl, cutD_from, List.map_drop]
  rw [ecut]
  unfold b__law_odd_weights_2
  repeat array_get_dec
  refine below_wp dk2 (by decide) (by decide) fun z c3 z0 z1 dk3 => ?_
  repeat array_get_dec
  refine ⟨fun _ => ?_, fun _ => ?_⟩
  · repeat array_get_dec
    refine pick_wp dk3 (by simp) (by simp) fun d c4 hd dk4 => ?_
    have key : OddW ws.length d ∧ Pr 3 20000 d := by
      simp only [List.mem_cons, List.not_mem_nil, or_false] at hd
      rcases hd with rfl | rfl | rfl | rfl | rfl | rfl | rfl
      · refine ⟨.other rfl (show ("list" : String) ≠ "tuple" by decide), ?_⟩
        refine (pr_lst (n := 0) (k := 60) (ds := ws.map .int) (fun d hd => ?_)).mono (by decide) (by rw [hwl]; omega)
        obtain ⟨x, hx, rfl⟩ := List.mem_map.mp hd
        exact pr_int (log_small (hws x hx))
      · refine ⟨.tup (kind_int _) (by simp; omega) (fun z => ?_), (pr_dTup (fun x hx => ?_) (by simp; omega)).mono⟩
        · have := z.1
          simp at this
        · rcases List.mem_append.mp hx with hx | hx
          · exact hws x hx
          · rw [List.mem_singleton.mp hx]; decide
      · refine ⟨.tup (kind_int _) (by simp; omega) (fun z => ?_), (pr_dTup (xs := ws.drop 1) (fun x hx => hws x (List.mem_of_mem_drop hx)) (by simp; omega)).mono⟩
        have := z.1
        simp at this
        omega
      · exact ⟨.other rfl (by decide), pr_non.mono⟩
      · exact ⟨.other rfl (by decide), pr_dic0.mono⟩
      · exact ⟨.other rfl (by decide), (pr_str (by decide +kernel)).mono⟩
      · exact ⟨.other rfl (by decide), (pr_int (log_small (by decide))).mono⟩
    repeat array_get_dec
    exact q d c4 key.1 key.2 dk4.mono
  · repeat array_get_dec
    unfold b__law_odd_weights_1
    repeat array_get_dec
    obtain ⟨k, rfl⟩ := Int.eq_ofNat_of_zero_le a0
    have hk : k < ws.length := by omega
    have c1' : cutD (ws.map D.int) none (some (k : Int)) = (ws.take k).map D.int := by rw [cutD_to, List.map_take]
    have c2' : cutD (ws.map D.int) (some ((k : Int) + 1)) none = (ws.drop (k + 1)).map D.int := by
      rw [show (k : Int) + 1 = ((k + 1 : Nat) : Int) from rfl, cutD_from, List.map_drop]
    rw [c1']
    refine gAG_of (addD_ok _ [o] (by simp; omega)) ?_
    repeat array_get_dec
    rw [c2']
    refine gAG_of (addD_ok _ _ (by simp; omega)) ?_
    repeat array_get_dec
    have hlen : ((ws.take k).map D.int ++ [o] ++ (ws.drop (k + 1)).map D.int).length = ws.length := by
      simp only [List.length_append, List.length_map, List.length_take, List.length_drop, List.length_cons, List.length_nil]
      omega
    have hmem : ∀ x ∈ (ws.take k).map D.int ++ [o] ++ (ws.drop (k + 1)).map D.int, x = o ∨ ∃ i ∈ ws, x = .int i := by
      intro x hx
      rcases List.mem_append.mp hx with hx | hx
      · rcases List.mem_append.mp hx with hx | hx
        · obtain ⟨i, hi, rfl⟩ := List.mem_map.mp hx
          exact .inr ⟨i, List.mem_of_mem_take hi, rfl⟩
        · exact .inl (List.mem_singleton.mp hx)
      · obtain ⟨i, hi, rfl⟩ := List.mem_map.mp hx
        exact .inr ⟨i, List.mem_of_mem_drop hi, rfl⟩
    refine q _ c3 (.tup (fun x hx => ?_) (by omega) (fun z => ?_)) ?_ dk3.mono
    · rcases hmem x hx with rfl | ⟨i, _, rfl⟩
      · exact ok
      · rfl
    · have := List.all_eq_true.mp z.2 o (by simp)
      rw [ow] at this
      cases this
    · refine (pr_tup (n := 1) (k := 100) (fun x hx => ?_)).mono (by decide) (by rw [hlen]; omega)
      rcases hmem x hx with rfl | ⟨i, hi, rfl⟩
      · exact op
      · exact (pr_int (log_small (hws i hi))).mono
end LB
set_option Elab.async false
set_option linter.all false
set_option maxRecDepth 100000
set_option maxHeartbeats 1000000
namespace K55
open PySem DM LB L2
local macro_rules | `(tactic| array_get_dec) => `(tactic| with_reducible first
  | apply wp_seq
  | apply wp_mret
  | apply wp_set
  | apply wp_setO
  | apply wp_setV
  | apply wp_par
  | apply wp_parL
  | apply wp_parR
  | apply wp_self
  | (refine initK_nx (by with_unfolding_all rfl) ?_)
  | apply wp_expr
  | apply wp_asg
  | apply wp_next
  | apply wp_ret
  | apply wp_yes
  | apply endK_rt
  | apply endK_nx
  | apply seqK_rt
  | apply seqK_nx
  | (refine setK_in (by (simp only [List.set_cons_succ, List.set_cons_zero]; with_unfolding_all rfl)) ?_)
  | (refine setK2_in (by (simp only [List.set_cons_succ, List.set_cons_zero]; with_unfolding_all rfl)) ?_)
  | (refine putK_own (by with_unfolding_all rfl) (by (simp only [List.set_cons_succ, List.set_cons_zero]; with_unfolding_all rfl)) ?_)
  | (refine wp_var (by with_unfolding_all rfl) ?_)
  | (refine wp_varO (by with_unfolding_all rfl) (by (simp only [List.set_cons_succ, List.set_cons_zero]; with_unfolding_all rfl)) ?_)
  | apply wp_nil
  | apply wp_cons
  | apply wp_tup
  | apply wp_lst
  | apply wp_L
  | apply wp_opQ
  | (refine wp_opNQ (by with_unfolding_all rfl) ?_)
  | apply wp_opEQ
  | (refine wp_opBQ (by with_unfolding_all rfl) (by with_unfolding_all rfl) ?_)
  | (refine eqG_i (by with_unfolding_all rfl) (by with_unfolding_all rfl) ?_)
  | (refine neG_i (by with_unfolding_all rfl) (by with_unfolding_all rfl) ?_)
  | (refine eqG_of (by with_unfolding_all rfl) ?_)
  | apply wp_opA
  | (refine wp_opNA (by with_unfolding_all rfl) ?_)
  | apply wp_opEA
  | (refine wp_opBA (by with_unfolding_all rfl) (by with_unfolding_all rfl) ?_)
  | apply wp_opM
  | (refine wp_opNM (by with_unfolding_all rfl) ?_)
  | apply wp_opEM
  | (refine wp_opBM (by with_unfolding_all rfl) (by with_unfolding_all rfl) ?_)
  | apply wp_opT
  | (refine wp_opNT (by with_unfolding_all rfl) ?_)
  | apply wp_opET
  | (refine wp_opBT (by with_unfolding_all rfl) (by with_unfolding_all rfl) ?_)
  | apply wp_opF
  | (refine wp_opNF (by with_unfolding_all rfl) ?_)
  | apply wp_opEF
  | (refine wp_opBF (by with_unfolding_all rfl) (by with_unfolding_all rfl) ?_)
  | apply wp_opP
  | (refine wp_opNP (by with_unfolding_all rfl) ?_)
  | apply wp_opEP
  | (refine wp_opBP (by with_unfolding_all rfl) (by with_unfolding_all rfl) ?_)
  | (refine gAG_i (by with_unfolding_all rfl) (by with_unfolding_all rfl) ?_)
  | (refine gMG_i (by with_unfolding_all rfl) (by with_unfolding_all rfl) (by omega) ?_)
  | apply wp_op
  | (refine wp_opN (by with_unfolding_all rfl) ?_)
  | apply wp_opE
  | (refine wp_opB (by with_unfolding_all rfl) (by with_unfolding_all rfl) (by with_unfolding_all rfl) ?_)
  | apply wp_B
  | apply wp_not
  | apply wp_and
  | apply wp_or
  | apply wp_andV
  | apply wp_orV
  | apply wp_notV
  | apply wp_if
  | apply wp_ifS'
  | apply wp_chain
  | apply wp_args
  | (refine wp_look (by with_unfolding_all rfl) ?_)
  | apply wp_argF
  | apply wp_isa
  | apply wp_callS
  | apply wp_callF
  | apply wp_part
  | apply wp_neg
  | apply wp_sl
  | (refine wp_slN (by with_unfolding_all rfl) ?_)
  | (refine wp_mut (by with_unfolding_all rfl) ?_)
  | apply wp_fld
  | apply wp_call
  | apply wpC_in
  | apply wp_comp
  | (refine wpW_in (by (simp only [wipeE, List.set_cons_succ, List.set_cons_zero]; with_unfolding_all rfl)) ?_)
  | (refine backK_in (by (simp only [backE, List.getElem?_cons_zero, List.getElem?_cons_succ, List.set_cons_succ, List.set_cons_zero]; with_unfolding_all rfl)) ?_)
  | (refine wipeK_in (by (simp only [wipeE, List.set_cons_succ, List.set_cons_zero]; with_unfolding_all rfl)) ?_)
  | apply wp_rng
  | apply wp_items
  | apply wp_enum
  | apply wp_zip
  | apply wp_for
  | apply wp_lcOne
  | apply par2
  | apply leaves_rt
  | apply wp_dcOne
  | apply wp_dcomp
  | apply wp_lcIn
  | apply wpI_in
  | (refine wpU_name (by (simp only [List.set_cons_succ, List.set_cons_zero]; with_unfolding_all rfl)) ?_)
  | (refine wpU_tup (by with_unfolding_all rfl) ?_)
  | (refine wpU_tupL (by with_unfolding_all rfl) ?_)
  | apply wpU_cons
  | apply wpU_nil
  | (refine bltG (by with_unfolding_all rfl) ?_)
  | apply wp_raiseR
  | apply wp_raise1
  | (refine smallG (by with_unfolding_all rfl) ?_)
  | apply nn_t
  | apply nn_f
  | apply bb_t
  | apply bb_f
  | apply cc_t
  | apply cc_f
  | (refine and_dt (by first | omega | (simp only [List.length_cons, List.length_nil, List.length_map]; omega)) ?_)
  | (refine and_df (by first | omega | (simp only [List.length_cons, List.length_nil, List.length_map]; omega)) ?_)
  | (refine and_dct (by first | omega | (simp only [List.length_cons, List.length_nil, List.length_map]; omega)) ?_)
  | (refine and_dcf (by first | omega | (simp only [List.length_cons, List.length_nil, List.length_map]; omega)) ?_)
  | (refine and_nt (by first | omega | (simp only [List.length_cons, List.length_nil, List.length_map]; omega)) ?_)
  | (refine and_nf (by first | omega | (simp only [List.length_cons, List.length_nil, List.length_map]; omega)) ?_)
  | apply and_it
  | apply and_if
  | (refine nonD_t (by with_unfolding_all rfl) ?_)
  | (refine nonD_f (by with_unfolding_all rfl) ?_)
  | (refine nnonD_t (by with_unfolding_all rfl) ?_)
  | (refine nnonD_f (by with_unfolding_all rfl) ?_)
  | (refine isaG_t (by with_unfolding_all rfl) ?_)
  | (refine isaG_f (by with_unfolding_all rfl) ?_)
  | (refine Exists.intro _ (And.intro (by with_unfolding_all rfl) ?_))
  | (refine Exists.intro _ (Exists.intro _ (And.intro (by with_unfolding_all rfl) (And.intro (by with_unfolding_all rfl) ?_)))))
local macro_rules | `(tactic| array_mem_dec) => `(tactic| (refine wpF_run' rfl (by (simp only [frame]; rfl)) ?_))
def chg : D := .str "change"
def mny : D := .tup [.str "many", .int 6]
def OddO (P : Prog) (w : Wat) (d due : D) : Prop := (due = chg ∧ ∀ cells, F_need_offers [dSrc P w, d] cells = .exc ncExc cells) ∨ (due = mny ∧ ∀ cells, F_need_offers [dSrc P w, d] cells = .exc tmExc cells)
def gOff (P : Prog) (w : Wat) (x : D) : Bool := match F_is_offer [dSrc P w, x] [] with
  | .ok (.bl b) _ => b
  | _ => false
theorem gOff_eq {P : Prog} {w : Wat} {x : D} {b : Bool} (h : ∀ cells, F_is_offer [dSrc P w, x] cells = .ok (.bl b) cells) : gOff P w x = b := by
  unfold gOff
  rw [h []]
theorem pr_off {o : Off} (h1 : o.1.natAbs < 2 ^ 40) (h2 : o.2.natAbs < 2 ^ 40) : Pr 1 300 (dOff o) := by
  refine (pr_tup (n := 0) (k := 60) (ds := [.int o.1, .int o.2]) (fun d hd => ?_)).mono (by decide) (by simp)
  simp only [List.mem_cons, List.not_mem_nil, or_false] at hd
  rcases hd with rfl | rfl
  · exact pr_int (log_small h1)
  · exact pr_int (log_small h2)
theorem pr_two {x y : D} (hx : Pr 0 60 x) (hy : Pr 0 60 y) : Pr 1 300 (.tup [x, y]) := by
  refine (pr_tup (n := 0) (k := 60) (ds := [x, y]) (fun d hd => ?_)).mono (by decide) (by simp)
  simp only [List.mem_cons, List.not_mem_nil, or_false] at hd
  rcases hd with rfl | rfl
  · exact hx
  · exact hy
theorem pr_two' {x y : D} (hx : Pr 0 60 x) (hy : Pr 0 60 y) : Pr 1 300 (.lst [x, y]) := by
  refine (pr_lst (n := 0) (k := 60) (ds := [x, y]) (fun d hd => ?_)).mono (by decide) (by simp)
  simp only [List.mem_cons, List.not_mem_nil, or_false] at hd
  rcases hd with rfl | rfl
  · exact hx
  · exact hy
structure NoOff (P : Prog) (w : Wat) (x : D) : Prop where
  no : ∀ cells, F_is_offer [dSrc P w, x] cells = .ok (.bl false) cells
  pr : Pr 1 300 x
theorem bad_list {P : Prog} {w : Wat} {os qs : List Off} {x : D} (hx : NoOff P w x) (hl : os.length + qs.length ≤ 10) : OddO P w (.lst (os.map dOff ++ [x] ++ qs.map dOff)) chg := by
  refine .inl ⟨rfl, fun cells => need_offers_bad (gOff P w) (fun y hy cells => ?_) (by simp; omega) ?_ cells⟩
  · have : ∃ b, ∀ cells, F_is_offer [dSrc P w, y] cells = .ok (.bl b) cells := by
      rcases List.mem_append.mp hy with hy | hy
      · rcases List.mem_append.mp hy with hy | hy
        · obtain ⟨o, _, rfl⟩ := List.mem_map.mp hy
          exact ⟨_, is_offer_run P w o⟩
        · rw [List.mem_singleton.mp hy]
          exact ⟨_, hx.no⟩
      · obtain ⟨o, _, rfl⟩ := List.mem_map.mp hy
        exact ⟨_, is_offer_run P w o⟩
    obtain ⟨b, hb⟩ := this
    rw [gOff_eq hb]
    exact hb cells
  · rw [List.all_append, List.all_append]
    have : ([x].all (gOff P w)) = false := by
      rw [List.all_cons, gOff_eq hx.no] <;> rfl
    rw [this, Bool.and_false, Bool.false_and]
theorem off_bounds {P : Prog} {w : Wat} {o : Off} (hP : OkP P) (h : offB P w o = true) (h2 : o.2 < 100000000000) : o.1.natAbs < 2 ^ 40 ∧ o.2.natAbs < 2 ^ 40 := by
  unfold offB at h
  simp only [Bool.and_eq_true, decide_eq_true_eq] at h
  have := hP.hi
  omega
theorem offB_of {P : Prog} {w : Wat} {i p : Int} (h0 : 0 ≤ i) (h1 : i < P.length) (hm : w.marks.contains i = false) (hp : 0 ≤ p) : offB P w (i, p) = true := by
  unfold offB
  rw [hm]
  simp only [decide_eq_true h0, decide_eq_true h1, decide_eq_true hp, Bool.and_self, Bool.not_false]
theorem odd_offers_wp {n : Nat} {cells : List Cell} {P : Prog} {w : Wat} {os : List Off} (hP : OkP P) (hW : OkW P.length w) (hos : OkOs P w os) (h : Deck (n + 10) cells) {Q : D → List Cell → Prop} {E : Exc → List Cell → Prop}
    (q : ∀ d due c, OddO P w d due → Pr 3 20000 d → Deck n c → Q (.lst [d, due]) c) : wpF F__law_odd_offers [.cel 0, dProg P, dWat w, .lst (os.map dOff)] cells Q E := by
  have hhi := hP.hi
  have hlp : (List.map dPlace P).length = P.length := List.length_map ..
  have hol : (os.map dOff).length = os.length := List.length_map ..
  have hle := hos.le
  array_mem_dec
  unfold b__law_odd_offers
  repeat array_get_dec
  rw [hol]
  refine below_wp h (by omega) (by omega) fun at_ c1 a0 a1 dk1 => ?_
  repeat array_get_dec
  rw [hlp]
  refine ⟨_, range_places P.length (by omega), ?_⟩
  repeat array_get_dec
  refine wp_lcF D.int (fun i => !w.marks.contains i) D.int ?_ ?_
  · intro i _
    repeat array_get_dec
    refine ⟨_, _, rfl, in_ints _ _ _, ?_⟩
    repeat array_get_dec
    refine ⟨fun hd => ?_, fun hd => ?_⟩
    · rw [hd]
      repeat array_get_dec
      exact ⟨rfl, rfl⟩
    · rw [hd]
      repeat array_get_dec
      exact ⟨rfl, rfl⟩
  · have hfl := List.length_filter_le (fun i => !w.marks.contains i) (places P.length)
    rw [places_len] at hfl
    refine ⟨small_map (by omega), ?_⟩
    generalize hfr : (places P.length).filter (fun i => !w.marks.contains i) = free at hfl
    have hfree : ∀ i ∈ free, 0 ≤ i ∧ i < P.length ∧ w.marks.contains i = false := fun i hi => by
      rw [← hfr] at hi
      obtain ⟨h1, h2⟩ := List.mem_filter.mp hi
      have := places_rg _ i h1
      exact ⟨this.1, this.2, by simpa using h2⟩
    have hfn : free.Nodup := by
      rw [← hfr]
      have := (places_up P.length).sublist (List.filter_sublist (p := fun i => !w.marks.contains i))
      exact this.imp fun h e => by omega
    repeat array_get_dec
    have hfm : (free.map D.int).length = free.length := List.length_map ..
    have hrm : (free.map fun i => dOff (i, 1)) = (free.map fun i => ((i, 1) : Off)).map dOff := by rw [List.map_map] <;> rfl
    have hrf : (free.map fun i => ((i, 1) : Off)).map (·.1) = free := by rw [List.map_map]; exact List.map_id' free
    have hrn : ((free.map fun i => ((i, 1) : Off)).map (·.1)).Nodup := by rw [hrf]; exact hfn
    have hrows : ∀ o ∈ free.map fun i => ((i, 1) : Off), offB P w o = true := fun o ho => by
      obtain ⟨i, hi, rfl⟩ := List.mem_map.mp ho
      have := hfree i hi
      exact offB_of this.1 this.2.1 this.2.2 (by decide)
    have hprr : Pr 3 20000 (.lst ((free.map fun i => ((i, 1) : Off)).map dOff)) := by
      refine (pr_lst (n := 1) (k := 300) (fun d hd => ?_)).mono (by decide) (by rw [List.length_map, List.length_map]; omega)
      obtain ⟨o, ho, rfl⟩ := List.mem_map.mp hd
      have h1 := hrows o ho
      obtain ⟨i, _, rfl⟩ := List.mem_map.mp ho
      have := off_bounds hP h1 (by show (1 : Int) < _; decide)
      exact pr_off this.1 this.2
    have hprs : ∀ d ∈ os.map dOff, Pr 1 300 d := fun d hd => by
      obtain ⟨o, ho, rfl⟩ := List.mem_map.mp hd
      have := off_bounds hP (hos.ok o ho).1 (hos.ok o ho).2
      exact pr_off this.1 this.2
    unfold b__law_odd_offers_10
    repeat array_get_dec
    refine below_wp dk1 (by decide) (by decide) fun way c2 w0 w1 dk2 => ?_
    repeat array_get_dec
    unfold b__law_odd_offers_9
    repeat array_get_dec
    refine ⟨fun _ => ?_, fun _ => ?_⟩
    · repeat array_get_dec
      refine pick_wp dk2 (by simp) (by simp) fun d c3 hd dk3 => ?_
      have key : OddO P w d chg ∧ Pr 3 20000 d := by
        simp only [List.mem_cons, List.not_mem_nil, or_false] at hd
        rcases hd with rfl | rfl | rfl | rfl | rfl
        · exact ⟨.inl ⟨rfl, need_offers_other rfl (show ("tuple" : String) ≠ "list" by decide)⟩, (pr_tup hprs).mono (by decide) (by omega)⟩
        · exact ⟨.inl ⟨rfl, need_offers_other rfl (by decide)⟩, pr_non.mono⟩
        · exact ⟨.inl ⟨rfl, need_offers_other rfl (by decide)⟩, pr_dic0.mono⟩
        · exact ⟨.inl ⟨rfl, need_offers_other rfl (by decide)⟩, (pr_str (by decide +kernel)).mono⟩
        · exact ⟨.inl ⟨rfl, need_offers_other rfl (by decide)⟩, (pr_int (log_small (by decide))).mono⟩
      repeat array_get_dec
      exact q d chg c3 key.1 key.2 dk3.mono
    · repeat array_get_dec
      unfold b__law_odd_offers_8
      refine wp_if_or (R := fun s' => s' = ⟨[some (.val (.cel 0)), some (.val (dProg P)), some (.val (dWat w)), some (.val (.lst (os.map dOff))), some (.val (.int at_)), some (.val (.lst (free.map .int))), some (.val (.int way)), none, none, none, none, none], c2⟩) ?_ ?_
      · repeat array_get_dec
        refine ⟨fun _ => ?_, fun _ => ?_⟩
        · repeat array_get_dec
          rw [hfm]
          refine ⟨fun h6 => ?_, fun h6 => ?_⟩
          · have h6 := of_decide_eq_true h6
            repeat array_get_dec
            refine wp_lcM D.int (fun i => dOff (i, 1)) ?_ ?_
            · intro i _
              repeat array_get_dec
              exact ⟨rfl, rfl⟩
            · refine ⟨small_map (by omega), ?_⟩
              repeat array_get_dec
              rw [hrm]
              refine q _ mny c2 (.inr ⟨rfl, fun cells => wpF_excEq ((need_offers_run hrows (by rw [List.length_map]; omega) cells).imp (fun d c z => ?_) fun e c z => ?_)⟩) hprr dk2.mono
              · have := z.2.2.2
                rw [List.length_map] at this
                omega
              · rcases z.2 with z2 | z2
                · exact absurd hrn z2.1
                · exact ⟨z2.2.2, z.1⟩
          · repeat array_get_dec
            rfl
        · repeat array_get_dec
          rfl
      · rintro s rfl
        unfold b__law_odd_offers_7
        refine wp_if_or (R := fun s' => s' = ⟨[some (.val (.cel 0)), some (.val (dProg P)), some (.val (dWat w)), some (.val (.lst (os.map dOff))), some (.val (.int at_)), some (.val (.lst (free.map .int))), some (.val (.int way)), none, none, none, none, none], c2⟩) ?_ ?_
        · repeat array_get_dec
          refine ⟨fun _ => ?_, fun _ => ?_⟩
          · repeat array_get_dec
            refine eqG_of (eqD_nil free) ?_
            repeat array_get_dec
            refine ⟨fun he => ?_, fun he => rfl⟩
            have hne : free ≠ [] := fun z => by rw [z] at he; cases he
            repeat array_get_dec
            refine pick_wp dk2 (by simpa using hne) (by rw [hfm]; omega) fun d c3 hd dk3 => ?_
            obtain ⟨pl, hpl, rfl⟩ := List.mem_map.mp hd
            repeat array_get_dec
            unfold b__law_odd_offers_3
            repeat array_get_dec
            refine wp_lcM D.int (fun i => dOff (i, 1)) ?_ ?_
            · intro i _
              repeat array_get_dec
              exact ⟨rfl, rfl⟩
            · refine ⟨small_map (by omega), ?_⟩
              repeat array_get_dec
              rw [hrm]
              unfold b__law_odd_offers_2
              repeat array_get_dec
              have hrl : ((free.map fun i => ((i, 1) : Off)).map dOff).length = free.length := by rw [List.length_map, List.length_map]
              rw [hrl]
              refine below_wp dk3 (by omega) (by omega) fun z c4 z0 z1 dk4 => ?_
              repeat array_get_dec
              refine below_wp dk4 (by omega) (by omega) fun y c5 y0 y1 dk5 => ?_
              repeat array_get_dec
              refine ⟨_, _, insert_ok (by omega) z0 (by omega), ?_⟩
              repeat array_get_dec
              unfold b__law_odd_offers_1
              repeat array_get_dec
              have e : (((free.map fun i => ((i, 1) : Off)).map dOff).take z.toNat ++ [D.tup [.int pl, .int y]] ++ ((free.map fun i => ((i, 1) : Off)).map dOff).drop z.toNat) = ((free.map fun i => ((i, 1) : Off)).take z.toNat ++ [(pl, y)] ++ (free.map fun i => ((i, 1) : Off)).drop z.toNat).map dOff := by
                rw [List.map_append, List.map_append, List.map_take, List.map_drop] <;> rfl
              rw [e]
              have perm : ((free.map fun i => ((i, 1) : Off)).take z.toNat ++ [(pl, y)] ++ (free.map fun i => ((i, 1) : Off)).drop z.toNat).Perm ((pl, y) :: free.map fun i => ((i, 1) : Off)) := by
                have := @List.perm_middle _ ((pl, y) : Off) ((free.map fun i => ((i, 1) : Off)).take z.toNat) ((free.map fun i => ((i, 1) : Off)).drop z.toNat)
                rw [List.take_append_drop] at this
                simpa using this
              have hl9 : ((free.map fun i => ((i, 1) : Off)).take z.toNat ++ [(pl, y)] ++ (free.map fun i => ((i, 1) : Off)).drop z.toNat).length ≤ 9 := by
                rw [perm.length_eq, List.length_cons, List.length_map]; omega
              have hall : ∀ o ∈ ((free.map fun i => ((i, 1) : Off)).take z.toNat ++ [(pl, y)] ++ (free.map fun i => ((i, 1) : Off)).drop z.toNat), offB P w o = true ∧ o.2 < 100000000000 := fun o ho => by
                rcases List.mem_cons.mp (perm.mem_iff.mp ho) with rfl | ho
                · have := hfree pl hpl
                  exact ⟨offB_of this.1 this.2.1 this.2.2 y0, by show y < _; omega⟩
                · obtain ⟨i, _, rfl⟩ := List.mem_map.mp ho
                  exact ⟨hrows _ ho, by show (1 : Int) < _; decide⟩
              refine q _ chg c5 (.inl ⟨rfl, fun cells => wpF_excEq ((need_offers_run (fun o ho => (hall o ho).1) (by omega) cells).imp (fun d c z => ?_) fun e c z => ?_)⟩) ?_ dk5.mono
              · have hn := z.2.2.1
                rw [(perm.map (·.1)).nodup_iff, List.map_cons, List.nodup_cons] at hn
                exact hn.1 (by rw [hrf]; exact hpl)
              · rcases z.2 with z2 | z2
                · exact ⟨z2.2, z.1⟩
                · have hn := z2.1
                  rw [(perm.map (·.1)).nodup_iff, List.map_cons, List.nodup_cons] at hn
                  exact absurd (show pl ∈ _ by rw [hrf]; exact hpl) hn.1
              · refine (pr_lst (n := 1) (k := 300) (fun d hd => ?_)).mono (by decide) (by rw [List.length_map]; omega)
                obtain ⟨o, ho, rfl⟩ := List.mem_map.mp hd
                have := off_bounds hP (hall o ho).1 (hall o ho).2
                exact pr_off this.1 this.2
          · repeat array_get_dec
            rfl
        · rintro s rfl
          unfold b__law_odd_offers_6
          repeat array_get_dec
          rw [hlp]
          refine pick_wp dk2 (by simp) (by simp) fun x c3 hx dk3 => ?_
          have hno : NoOff P w x := by
            simp only [List.mem_cons, List.not_mem_nil, or_false] at hx
            rcases hx with rfl | rfl | rfl | rfl | rfl | rfl | rfl | rfl
            · exact ⟨is_offer_other rfl (by decide), pr_non.mono⟩
            · exact ⟨is_offer_other rfl (by decide), (pr_two' (pr_int (log_small (by decide))) (pr_int (log_small (by decide))))⟩
            · exact ⟨is_offer_len (by decide), (pr_tup (n := 0) (k := 60) (fun d hd => by rw [List.mem_singleton.mp hd]; exact pr_int (log_small (by decide)))).mono (by decide) (by decide)⟩
            · refine ⟨is_offer_len (by decide), (pr_tup (n := 0) (k := 60) (fun d hd => ?_)).mono (by decide) (by decide)⟩
              simp only [List.mem_cons, List.not_mem_nil, or_false] at hd
              rcases hd with rfl | rfl | rfl <;> exact pr_int (log_small (by decide))
            · refine ⟨fun cells => ?_, pr_two (pr_int (log_small (by omega))) (pr_int (log_small (by decide)))⟩
              show F_is_offer [dSrc P w, dOff ((P.length : Int), 1)] cells = _
              rw [is_offer_run P w ((P.length : Int), 1)]
              unfold offB
              simp
            · refine ⟨fun cells => ?_, pr_two (pr_int (log_small (by decide))) (pr_int (log_small (by decide)))⟩
              show F_is_offer [dSrc P w, dOff (0 - 1, 1)] cells = _
              rw [is_offer_run P w (0 - 1, 1)]
              unfold offB
              simp
            · exact ⟨is_offer_two rfl rfl rfl, pr_two (pr_bl true) (pr_int (log_small (by decide)))⟩
            · exact ⟨is_offer_two rfl rfl rfl, pr_two (pr_str (by decide +kernel)) (pr_int (log_small (by decide)))⟩
          repeat array_get_dec
          unfold b__law_odd_offers_5
          refine wp_mid (fun s' => ∃ x c', NoOff P w x ∧ Deck n c' ∧ s' = ⟨[some (.val (.cel 0)), some (.val (dProg P)), some (.val (dWat w)), some (.val (.lst (os.map dOff))), some (.val (.int at_)), some (.val (.lst (free.map .int))), some (.val (.int way)), none, none, some (.val x), none, none], c'⟩) ?_ ?_
          · repeat array_get_dec
            refine below_wp dk3 (by decide) (by decide) fun y c4 y0 y1 dk4 => ?_
            repeat array_get_dec
            refine ⟨fun _ => ?_, fun _ => ?_⟩
            · repeat array_get_dec
              refine wp_lcM D.int (fun i => dOff (i, 1)) ?_ ?_
              · intro i _
                repeat array_get_dec
                exact ⟨rfl, rfl⟩
              · have hml : w.marks.length ≤ 8 := Nat.le_trans (hW.rg.len hW.up) hhi
                refine ⟨small_map (by omega), ?_⟩
                repeat array_get_dec
                refine gAG_of (addLst_ok _ _ (by simp; omega)) ?_
                repeat array_get_dec
                refine pick_wp dk4 (by simp) (by simp; omega) fun x c5 hx dk5 => ?_
                have hno : NoOff P w x := by
                  simp only [List.cons_append, List.nil_append, List.mem_cons] at hx
                  rcases hx with rfl | rfl | rfl | rfl | hx
                  · exact ⟨is_offer_two rfl rfl rfl, pr_two (pr_int (log_small (by decide))) pr_non⟩
                  · exact ⟨is_offer_two rfl rfl rfl, pr_two (pr_int (log_small (by decide))) (pr_bl true)⟩
                  · exact ⟨is_offer_two rfl rfl rfl, pr_two (pr_int (log_small (by decide))) (pr_str (by decide +kernel))⟩
                  · refine ⟨fun cells => ?_, pr_two (pr_int (log_small (by decide))) (pr_int (log_small (by decide)))⟩
                    show F_is_offer [dSrc P w, dOff (0, 0 - 1)] cells = _
                    rw [is_offer_run P w (0, 0 - 1)]
                    unfold offB
                    simp
                  · obtain ⟨i, hi, rfl⟩ := List.mem_map.mp hx
                    have := hW.rg i hi
                    refine ⟨fun cells => ?_, pr_off (show i.natAbs < 2 ^ 40 by omega) (show (1 : Int).natAbs < 2 ^ 40 by decide)⟩
                    rw [is_offer_run P w (i, 1)]
                    unfold offB
                    have hc : w.marks.contains i = true := by simpa using hi
                    simp only [hc, Bool.not_true, Bool.and_false]
                repeat array_get_dec
                exact ⟨rfl, x, c5, hno, dk5.mono, rfl⟩
            · repeat array_get_dec
              exact ⟨rfl, x, c4, hno, dk4.mono, rfl⟩
          · rintro s ⟨x, c4, hno, dk4, rfl⟩
            unfold b__law_odd_offers_4
            repeat array_get_dec
            obtain ⟨k, rfl⟩ := Int.eq_ofNat_of_zero_le a0
            have e1 : cutD (os.map dOff) none (some (k : Int)) = (os.take k).map dOff := by rw [cutD_to, List.map_take]
            have e2 : cutD (os.map dOff) (some (k : Int)) none = (os.drop k).map dOff := by rw [cutD_from, List.map_drop]
            rw [e1]
            refine gAG_of (addLst_ok _ [x] (by simp; omega)) ?_
            repeat array_get_dec
            rw [e2]
            refine gAG_of (addLst_ok _ _ (by simp; omega)) ?_
            repeat array_get_dec
            refine q _ chg c4 (bad_list hno (by simp; omega)) ?_ dk4
            refine (pr_lst (n := 1) (k := 300) (fun d hd => ?_)).mono (by decide) (by simp; omega)
            rcases List.mem_append.mp hd with hd | hd
            · rcases List.mem_append.mp hd with hd | hd
              · obtain ⟨o, ho, rfl⟩ := List.mem_map.mp hd
                exact hprs _ (List.mem_map.mpr ⟨o, List.mem_of_mem_take ho, rfl⟩)
              · rw [List.mem_singleton.mp hd]
                exact hno.pr
            · obtain ⟨o, ho, rfl⟩ := List.mem_map.mp hd
              exact hprs _ (List.mem_map.mpr ⟨o, List.mem_of_mem_drop ho, rfl⟩)
end K55
set_option Elab.async false
set_option linter.all false
set_option maxRecDepth 100000
set_option maxHeartbeats 1000000
namespace K55
open PySem DM LB L2
local macro_rules | `(tactic| array_get_dec) => `(tactic| with_reducible first
  | apply wp_seq
  | apply wp_mret
  | apply wp_set
  | apply wp_setO
  | apply wp_setV
  | apply wp_par
  | apply wp_parL
  | apply wp_parR
  | apply wp_self
  | (refine initK_nx (by with_unfolding_all rfl) ?_)
  | apply wp_expr
  | apply wp_asg
  | apply wp_next
  | apply wp_ret
  | apply wp_yes
  | apply endK_rt
  | apply endK_nx
  | apply seqK_rt
  | apply seqK_nx
  | (refine setK_in (by (simp only [List.set_cons_succ, List.set_cons_zero]; with_unfolding_all rfl)) ?_)
  | (refine setK2_in (by (simp only [List.set_cons_succ, List.set_cons_zero]; with_unfolding_all rfl)) ?_)
  | (refine putK_own (by with_unfolding_all rfl) (by (simp only [List.set_cons_succ, List.set_cons_zero]; with_unfolding_all rfl)) ?_)
  | (refine wp_var (by with_unfolding_all rfl) ?_)
  | (refine wp_varO (by with_unfolding_all rfl) (by (simp only [List.set_cons_succ, List.set_cons_zero]; with_unfolding_all rfl)) ?_)
  | apply wp_nil
  | apply wp_cons
  | apply wp_tup
  | apply wp_lst
  | apply wp_L
  | apply wp_opQ
  | (refine wp_opNQ (by with_unfolding_all rfl) ?_)
  | apply wp_opEQ
  | (refine wp_opBQ (by with_unfolding_all rfl) (by with_unfolding_all rfl) ?_)
  | (refine eqG_i (by with_unfolding_all rfl) (by with_unfolding_all rfl) ?_)
  | (refine neG_i (by with_unfolding_all rfl) (by with_unfolding_all rfl) ?_)
  | (refine eqG_of (by with_unfolding_all rfl) ?_)
  | apply wp_opA
  | (refine wp_opNA (by with_unfolding_all rfl) ?_)
  | apply wp_opEA
  | (refine wp_opBA (by with_unfolding_all rfl) (by with_unfolding_all rfl) ?_)
  | apply wp_opM
  | (refine wp_opNM (by with_unfolding_all rfl) ?_)
  | apply wp_opEM
  | (refine wp_opBM (by with_unfolding_all rfl) (by with_unfolding_all rfl) ?_)
  | apply wp_opT
  | (refine wp_opNT (by with_unfolding_all rfl) ?_)
  | apply wp_opET
  | (refine wp_opBT (by with_unfolding_all rfl) (by with_unfolding_all rfl) ?_)
  | apply wp_opF
  | (refine wp_opNF (by with_unfolding_all rfl) ?_)
  | apply wp_opEF
  | (refine wp_opBF (by with_unfolding_all rfl) (by with_unfolding_all rfl) ?_)
  | apply wp_opP
  | (refine wp_opNP (by with_unfolding_all rfl) ?_)
  | apply wp_opEP
  | (refine wp_opBP (by with_unfolding_all rfl) (by with_unfolding_all rfl) ?_)
  | (refine gAG_i (by with_unfolding_all rfl) (by with_unfolding_all rfl) ?_)
  | (refine gMG_i (by with_unfolding_all rfl) (by with_unfolding_all rfl) (by omega) ?_)
  | apply wp_op
  | (refine wp_opN (by with_unfolding_all rfl) ?_)
  | apply wp_opE
  | (refine wp_opB (by with_unfolding_all rfl) (by with_unfolding_all rfl) (by with_unfolding_all rfl) ?_)
  | apply wp_B
  | apply wp_not
  | apply wp_and
  | apply wp_or
  | apply wp_andV
  | apply wp_orV
  | apply wp_notV
  | apply wp_if
  | apply wp_ifS'
  | apply wp_chain
  | apply wp_args
  | (refine wp_look (by with_unfolding_all rfl) ?_)
  | apply wp_argF
  | apply wp_isa
  | apply wp_callS
  | apply wp_callF
  | apply wp_part
  | apply wp_neg
  | apply wp_sl
  | (refine wp_slN (by with_unfolding_all rfl) ?_)
  | (refine wp_mut (by with_unfolding_all rfl) ?_)
  | apply wp_fld
  | apply wp_call
  | apply wpC_in
  | apply wp_comp
  | (refine wpW_in (by (simp only [wipeE, List.set_cons_succ, List.set_cons_zero]; with_unfolding_all rfl)) ?_)
  | (refine backK_in (by (simp only [backE, List.getElem?_cons_zero, List.getElem?_cons_succ, List.set_cons_succ, List.set_cons_zero]; with_unfolding_all rfl)) ?_)
  | (refine wipeK_in (by (simp only [wipeE, List.set_cons_succ, List.set_cons_zero]; with_unfolding_all rfl)) ?_)
  | apply wp_rng
  | apply wp_items
  | apply wp_enum
  | apply wp_zip
  | apply wp_for
  | apply wp_lcOne
  | apply par2
  | apply leaves_rt
  | apply wp_dcOne
  | apply wp_dcomp
  | apply wp_lcIn
  | apply wpI_in
  | (refine wpU_name (by (simp only [List.set_cons_succ, List.set_cons_zero]; with_unfolding_all rfl)) ?_)
  | (refine wpU_tup (by with_unfolding_all rfl) ?_)
  | (refine wpU_tupL (by with_unfolding_all rfl) ?_)
  | apply wpU_cons
  | apply wpU_nil
  | (refine bltG (by with_unfolding_all rfl) ?_)
  | apply wp_raiseR
  | apply wp_raise1
  | (refine smallG (by with_unfolding_all rfl) ?_)
  | apply nn_t
  | apply nn_f
  | apply bb_t
  | apply bb_f
  | apply cc_t
  | apply cc_f
  | (refine and_dt (by first | omega | (simp only [List.length_cons, List.length_nil, List.length_map]; omega)) ?_)
  | (refine and_df (by first | omega | (simp only [List.length_cons, List.length_nil, List.length_map]; omega)) ?_)
  | (refine and_dct (by first | omega | (simp only [List.length_cons, List.length_nil, List.length_map]; omega)) ?_)
  | (refine and_dcf (by first | omega | (simp only [List.length_cons, List.length_nil, List.length_map]; omega)) ?_)
  | (refine and_nt (by first | omega | (simp only [List.length_cons, List.length_nil, List.length_map]; omega)) ?_)
  | (refine and_nf (by first | omega | (simp only [List.length_cons, List.length_nil, List.length_map]; omega)) ?_)
  | apply and_it
  | apply and_if
  | (refine nonD_t (by with_unfolding_all rfl) ?_)
  | (refine nonD_f (by with_unfolding_all rfl) ?_)
  | (refine nnonD_t (by with_unfolding_all rfl) ?_)
  | (refine nnonD_f (by with_unfolding_all rfl) ?_)
  | (refine isaG_t (by with_unfolding_all rfl) ?_)
  | (refine isaG_f (by with_unfolding_all rfl) ?_)
  | (refine Exists.intro _ (And.intro (by with_unfolding_all rfl) ?_))
  | (refine Exists.intro _ (Exists.intro _ (And.intro (by with_unfolding_all rfl) (And.intro (by with_unfolding_all rfl) ?_)))))
local macro_rules | `(tactic| array_mem_dec) => `(tactic| (refine wpF_run' rfl (by (simp only [frame]; rfl)) ?_))
theorem need_weights_ok {P : Prog} (h : OkP P) {w : Wat} {ws : List Int} (hl : ws.length = P.length) (hw : ∀ x ∈ ws, wOk x) (cells : List Cell) : F_need_weights [dSrc P w, dTup ws] cells = .ok .non cells := by
  have hhi := h.hi
  refine wpF_eq ((need_weights_tup h (kind_int ws) (by simp; omega) cells).imp (fun d c z => ⟨z.1, z.2.1⟩) fun e c z => ?_)
  refine z.2.2 ⟨by rw [List.length_map]; exact hl, List.all_eq_true.mpr fun x hx => ?_⟩
  obtain ⟨i, hi, rfl⟩ := List.mem_map.mp hx
  exact decide_eq_true (hw i hi)
def wtD : D := .str "weights"
theorem spread_of_w {P : Prog} {w : Wat} {W : D} (hn : ∀ cells, F_need_weights [dSrc P w, W] cells = .exc nwExc cells) (cells : List Cell) : F_spread_of [dSrc P w, W] cells = .exc nwExc cells := by
  refine wpF_excEq ?_
  array_mem_dec
  unfold b_spread_of
  repeat array_get_dec
  refine wpF_exc (hn _) ?_
  exact ⟨rfl, rfl⟩
theorem cheapest_w {P : Prog} {w : Wat} {W O : D} (hn : ∀ cells, F_need_weights [dSrc P w, W] cells = .exc nwExc cells) (cells : List Cell) : F_cheapest [dSrc P w, W, .int 1, O] cells = .exc nwExc cells := by
  refine wpF_excEq ?_
  array_mem_dec
  unfold b_cheapest
  repeat array_get_dec
  refine wpF_exc (hn _) ?_
  exact ⟨rfl, rfl⟩
theorem shows_cheapest_w {P : Prog} {w : Wat} {W O : D} (hn : ∀ cells, F_need_weights [dSrc P w, W] cells = .exc nwExc cells) (cells : List Cell) : F_shows_cheapest [dSrc P w, W, .int 1, O, .non] cells = .exc nwExc cells := by
  refine wpF_excEq ?_
  array_mem_dec
  unfold b_shows_cheapest
  repeat array_get_dec
  refine wpF_exc (hn _) ?_
  exact ⟨rfl, rfl⟩
theorem settled_w {P : Prog} {w : Wat} {W : D} (hn : ∀ cells, F_need_weights [dSrc P w, W] cells = .exc nwExc cells) (cells : List Cell) : F_settled [dSrc P w, W, .int 1] cells = .exc nwExc cells := by
  refine wpF_excEq ?_
  array_mem_dec
  unfold b_settled
  repeat array_get_dec
  refine wpF_exc (spread_of_w hn _) ?_
  exact ⟨rfl, rfl⟩
theorem breach_w {P : Prog} {w : Wat} {W : D} (hn : ∀ cells, F_need_weights [dSrc P w, W] cells = .exc nwExc cells) (cells : List Cell) : F_breach [dSrc P w, W, .int 1] cells = .exc nwExc cells := by
  refine wpF_excEq ?_
  array_mem_dec
  unfold b_breach
  repeat array_get_dec
  refine wpF_exc (spread_of_w hn _) ?_
  exact ⟨rfl, rfl⟩
theorem shows_breach_w {P : Prog} {w : Wat} {W : D} (hn : ∀ cells, F_need_weights [dSrc P w, W] cells = .exc nwExc cells) (cells : List Cell) : F_shows_breach [dSrc P w, W, .int 1, .non] cells = .exc nwExc cells := by
  refine wpF_excEq ?_
  array_mem_dec
  unfold b_shows_breach
  repeat array_get_dec
  refine wpF_exc (hn _) ?_
  exact ⟨rfl, rfl⟩
theorem greatest_high_w {P : Prog} {w : Wat} {W : D} (hn : ∀ cells, F_need_weights [dSrc P w, W] cells = .exc nwExc cells) (cells : List Cell) : F_greatest_high [dSrc P w, W, .int 1] cells = .exc nwExc cells := by
  refine wpF_excEq ?_
  array_mem_dec
  unfold b_greatest_high
  repeat array_get_dec
  refine wpF_exc (hn _) ?_
  exact ⟨rfl, rfl⟩
theorem cheapest_o {P : Prog} {w : Wat} {W O : D} {e : Exc} (hn : ∀ cells, F_need_weights [dSrc P w, W] cells = .ok .non cells) (ho : ∀ cells, F_need_offers [dSrc P w, O] cells = .exc e cells) (cells : List Cell) : F_cheapest [dSrc P w, W, .int 1, O] cells = .exc e cells := by
  refine wpF_excEq ?_
  array_mem_dec
  unfold b_cheapest
  repeat array_get_dec
  refine wpF_ok (hn _) ?_
  repeat array_get_dec
  unfold b_cheapest_1
  repeat array_get_dec
  refine wpF_exc (ho _) ?_
  exact ⟨rfl, rfl⟩
theorem shows_cheapest_o {P : Prog} {w : Wat} {W O : D} {e : Exc} (hn : ∀ cells, F_need_weights [dSrc P w, W] cells = .ok .non cells) (ho : ∀ cells, F_need_offers [dSrc P w, O] cells = .exc e cells) (cells : List Cell) : F_shows_cheapest [dSrc P w, W, .int 1, O, .non] cells = .exc e cells := by
  refine wpF_excEq ?_
  array_mem_dec
  unfold b_shows_cheapest
  repeat array_get_dec
  refine wpF_ok (hn _) ?_
  repeat array_get_dec
  unfold b_shows_cheapest_1
  repeat array_get_dec
  refine wpF_exc (ho _) ?_
  exact ⟨rfl, rfl⟩
theorem marked_o {P : Prog} {w : Wat} {O x : D} {e : Exc} (ho : ∀ cells, F_need_offers [dSrc P w, O] cells = .exc e cells) (cells : List Cell) : F_marked [dSrc P w, O, x] cells = .exc e cells := by
  refine wpF_excEq ?_
  array_mem_dec
  unfold b_marked
  repeat array_get_dec
  refine wpF_exc (ho _) ?_
  exact ⟨rfl, rfl⟩
theorem asked_w {P : Prog} (h : OkP P) {w : Wat} {W O : D} (ho : OddW P.length W) {k : Int} (h0 : 0 ≤ k) (h6 : k < 6) (cells : List Cell) : F__law_asked [.int k, dSrc P w, W, O] cells = .exc nwExc cells := by
  have hn := need_weights_odd h (w := w) ho
  refine wpF_excEq ?_
  array_mem_dec
  have hk : k = 0 ∨ k = 1 ∨ k = 2 ∨ k = 3 ∨ k = 4 ∨ k = 5 := by omega
  unfold b__law_asked
  rcases hk with rfl | rfl | rfl | rfl | rfl | rfl
  · repeat array_get_dec
    refine wpF_exc (cheapest_w hn _) ?_
    exact ⟨rfl, rfl⟩
  · repeat array_get_dec
    unfold b__law_asked_5
    repeat array_get_dec
    refine wpF_exc (shows_cheapest_w hn _) ?_
    exact ⟨rfl, rfl⟩
  · repeat array_get_dec
    unfold b__law_asked_5
    repeat array_get_dec
    unfold b__law_asked_4
    repeat array_get_dec
    refine wpF_exc (settled_w hn _) ?_
    exact ⟨rfl, rfl⟩
  · repeat array_get_dec
    unfold b__law_asked_5
    repeat array_get_dec
    unfold b__law_asked_4
    repeat array_get_dec
    unfold b__law_asked_3
    repeat array_get_dec
    refine wpF_exc (breach_w hn _) ?_
    exact ⟨rfl, rfl⟩
  · repeat array_get_dec
    unfold b__law_asked_5
    repeat array_get_dec
    unfold b__law_asked_4
    repeat array_get_dec
    unfold b__law_asked_3
    repeat array_get_dec
    unfold b__law_asked_2
    repeat array_get_dec
    refine wpF_exc (shows_breach_w hn _) ?_
    exact ⟨rfl, rfl⟩
  · repeat array_get_dec
    unfold b__law_asked_5
    repeat array_get_dec
    unfold b__law_asked_4
    repeat array_get_dec
    unfold b__law_asked_3
    repeat array_get_dec
    unfold b__law_asked_2
    repeat array_get_dec
    unfold b__law_asked_1
    repeat array_get_dec
    refine wpF_exc (greatest_high_w hn _) ?_
    exact ⟨rfl, rfl⟩
theorem asked_o {P : Prog} {w : Wat} {W O : D} {e : Exc} (hn : ∀ cells, F_need_weights [dSrc P w, W] cells = .ok .non cells) (ho : ∀ cells, F_need_offers [dSrc P w, O] cells = .exc e cells) {k : Int} (h0 : 0 ≤ k) (h2 : k < 2) (cells : List Cell) : F__law_asked [.int k, dSrc P w, W, O] cells = .exc e cells := by
  refine wpF_excEq ?_
  array_mem_dec
  have hk : k = 0 ∨ k = 1 := by omega
  unfold b__law_asked
  rcases hk with rfl | rfl
  · repeat array_get_dec
    refine wpF_exc (cheapest_o hn ho _) ?_
    exact ⟨rfl, rfl⟩
  · repeat array_get_dec
    unfold b__law_asked_5
    repeat array_get_dec
    refine wpF_exc (shows_cheapest_o hn ho _) ?_
    exact ⟨rfl, rfl⟩
theorem exm_nw : exmT "NoWeights" "NoWeights" = some true := by decide +kernel
theorem exm_nc : exmT "NoChange" "NoWeights" = some false := by decide +kernel
theorem exm_nc2 : exmT "NoChange" "NoChange" = some true := by decide +kernel
theorem exm_tm : exmT "TooMany" "NoWeights" = some false := by decide +kernel
theorem exm_tm2 : exmT "TooMany" "NoChange" = some false := by decide +kernel
theorem exm_tm3 : exmT "TooMany" "TooMany" = some true := by decide +kernel
theorem deck_clean {n : Nat} {c : List Cell} (h : Deck n c) : cleanC c = true := by
  obtain ⟨ns, p, a, b, rfl, _⟩ := h
  rfl
theorem refusal_of {P : Prog} {w : Wat} {W O : D} {e : Exc} {k : Int} {n : Nat} {c : List Cell} (hd : Deck n c) {due : D} (hk : (e = nwExc ∧ due = wtD) ∨ (e = ncExc ∧ due = chg) ∨ (e = tmExc ∧ due = mny)) (h0 : 0 ≤ k) (h9 : k < 10)
    (ha : k < 6 → ∀ cells, F__law_asked [.int k, dSrc P w, W, O] cells = .exc e cells) (hm : 6 ≤ k → ∀ x cells, F_marked [dSrc P w, O, x] cells = .exc e cells) : F__law_refusal [.int k, dSrc P w, W, O] c = .ok due c := by
  have hcl := deck_clean hd
  refine wpF_eq ?_
  array_mem_dec
  unfold b__law_refusal
  repeat array_get_dec
  unfold b__law_refusal_1
  repeat array_get_dec
  refine wp_try ?_
  have hand : wp (tryGo exmT e [⟨"NoWeights", none, (mSet 4 (DM.ret (.str "weights")))⟩, ⟨"NoChange", none, (mSet 4 (DM.ret (.str "change")))⟩, ⟨"TooMany", some 5, (mSet 4 (mTup (mCons (DM.ret (.str "many")) (mCons (mXf "TooMany" 5 "limit") mNil))))⟩, ⟨"Mismatch", none, (mSet 4 (DM.ret (.str "mismatch")))⟩])
      ⟨[some (.val (.int k)), some (.val (dSrc P w)), some (.val W), some (.val O), some (.val .non), none], c⟩ (seqK (mRet (mVar 4)) (endK fun d' c' => d' = due ∧ c' = c) fun e s => NoE e s.cells) (fun e s => NoE e s.cells) := by
    rcases hk with ⟨rfl, rfl⟩ | ⟨rfl, rfl⟩ | ⟨rfl, rfl⟩
    · refine wp_hdT rfl exm_nw ?_
      repeat array_get_dec
      refine ⟨hcl, ?_⟩
      repeat array_get_dec
      exact ⟨rfl, rfl⟩
    · refine wp_hdN exm_nc (wp_hdT rfl exm_nc2 ?_)
      repeat array_get_dec
      refine ⟨hcl, ?_⟩
      repeat array_get_dec
      exact ⟨rfl, rfl⟩
    · refine wp_hdN exm_tm (wp_hdN exm_tm2 (wp_hdE rfl exm_tm3 rfl ?_))
      repeat array_get_dec
      refine wp_xf rfl rfl ?_
      repeat array_get_dec
      refine ⟨hcl, ?_⟩
      repeat array_get_dec
      exact ⟨rfl, rfl⟩
  by_cases h6 : k < 6
  · repeat array_get_dec
    refine wpF_exc (ha h6 _) ?_
    exact hand
  · have hk9 : k = 6 ∨ k = 7 ∨ k = 8 ∨ k = 9 := by omega
    rcases hk9 with rfl | rfl | rfl | rfl
    all_goals
      repeat array_get_dec
      refine wpF_exc (hm (by decide) _ _) ?_
      exact hand
end K55
set_option Elab.async false
set_option linter.all false
set_option maxRecDepth 100000
set_option maxHeartbeats 1000000
namespace K55
open PySem DM LB L2
local macro_rules | `(tactic| array_get_dec) => `(tactic| with_reducible first
  | apply wp_seq
  | apply wp_mret
  | apply wp_set
  | apply wp_setO
  | apply wp_setV
  | apply wp_par
  | apply wp_parL
  | apply wp_parR
  | apply wp_self
  | (refine initK_nx (by with_unfolding_all rfl) ?_)
  | apply wp_expr
  | apply wp_asg
  | apply wp_next
  | apply wp_ret
  | apply wp_yes
  | apply endK_rt
  | apply endK_nx
  | apply seqK_rt
  | apply seqK_nx
  | (refine setK_in (by (simp only [List.set_cons_succ, List.set_cons_zero]; with_unfolding_all rfl)) ?_)
  | (refine setK2_in (by (simp only [List.set_cons_succ, List.set_cons_zero]; with_unfolding_all rfl)) ?_)
  | (refine putK_own (by with_unfolding_all rfl) (by (simp only [List.set_cons_succ, List.set_cons_zero]; with_unfolding_all rfl)) ?_)
  | (refine wp_var (by with_unfolding_all rfl) ?_)
  | (refine wp_varO (by with_unfolding_all rfl) (by (simp only [List.set_cons_succ, List.set_cons_zero]; with_unfolding_all rfl)) ?_)
  | apply wp_nil
  | apply wp_cons
  | apply wp_tup
  | apply wp_lst
  | apply wp_L
  | apply wp_opQ
  | (refine wp_opNQ (by with_unfolding_all rfl) ?_)
  | apply wp_opEQ
  | (refine wp_opBQ (by with_unfolding_all rfl) (by with_unfolding_all rfl) ?_)
  | (refine eqG_i (by with_unfolding_all rfl) (by with_unfolding_all rfl) ?_)
  | (refine neG_i (by with_unfolding_all rfl) (by with_unfolding_all rfl) ?_)
  | (refine eqG_of (by with_unfolding_all rfl) ?_)
  | apply wp_opA
  | (refine wp_opNA (by with_unfolding_all rfl) ?_)
  | apply wp_opEA
  | (refine wp_opBA (by with_unfolding_all rfl) (by with_unfolding_all rfl) ?_)
  | apply wp_opM
  | (refine wp_opNM (by with_unfolding_all rfl) ?_)
  | apply wp_opEM
  | (refine wp_opBM (by with_unfolding_all rfl) (by with_unfolding_all rfl) ?_)
  | apply wp_opT
  | (refine wp_opNT (by with_unfolding_all rfl) ?_)
  | apply wp_opET
  | (refine wp_opBT (by with_unfolding_all rfl) (by with_unfolding_all rfl) ?_)
  | apply wp_opF
  | (refine wp_opNF (by with_unfolding_all rfl) ?_)
  | apply wp_opEF
  | (refine wp_opBF (by with_unfolding_all rfl) (by with_unfolding_all rfl) ?_)
  | apply wp_opP
  | (refine wp_opNP (by with_unfolding_all rfl) ?_)
  | apply wp_opEP
  | (refine wp_opBP (by with_unfolding_all rfl) (by with_unfolding_all rfl) ?_)
  | (refine gAG_i (by with_unfolding_all rfl) (by with_unfolding_all rfl) ?_)
  | (refine gMG_i (by with_unfolding_all rfl) (by with_unfolding_all rfl) (by omega) ?_)
  | apply wp_op
  | (refine wp_opN (by with_unfolding_all rfl) ?_)
  | apply wp_opE
  | (refine wp_opB (by with_unfolding_all rfl) (by with_unfolding_all rfl) (by with_unfolding_all rfl) ?_)
  | apply wp_B
  | apply wp_not
  | apply wp_and
  | apply wp_or
  | apply wp_andV
  | apply wp_orV
  | apply wp_notV
  | apply wp_if
  | apply wp_ifS'
  | apply wp_chain
  | apply wp_args
  | (refine wp_look (by with_unfolding_all rfl) ?_)
  | apply wp_argF
  | apply wp_isa
  | apply wp_callS
  | apply wp_callF
  | apply wp_part
  | apply wp_neg
  | apply wp_sl
  | (refine wp_slN (by with_unfolding_all rfl) ?_)
  | (refine wp_mut (by with_unfolding_all rfl) ?_)
  | apply wp_fld
  | apply wp_call
  | apply wpC_in
  | apply wp_comp
  | (refine wpW_in (by (simp only [wipeE, List.set_cons_succ, List.set_cons_zero]; with_unfolding_all rfl)) ?_)
  | (refine backK_in (by (simp only [backE, List.getElem?_cons_zero, List.getElem?_cons_succ, List.set_cons_succ, List.set_cons_zero]; with_unfolding_all rfl)) ?_)
  | (refine wipeK_in (by (simp only [wipeE, List.set_cons_succ, List.set_cons_zero]; with_unfolding_all rfl)) ?_)
  | apply wp_rng
  | apply wp_items
  | apply wp_enum
  | apply wp_zip
  | apply wp_for
  | apply wp_lcOne
  | apply par2
  | apply leaves_rt
  | apply wp_dcOne
  | apply wp_dcomp
  | apply wp_lcIn
  | apply wpI_in
  | (refine wpU_name (by (simp only [List.set_cons_succ, List.set_cons_zero]; with_unfolding_all rfl)) ?_)
  | (refine wpU_tup (by with_unfolding_all rfl) ?_)
  | (refine wpU_tupL (by with_unfolding_all rfl) ?_)
  | apply wpU_cons
  | apply wpU_nil
  | (refine bltG (by with_unfolding_all rfl) ?_)
  | apply wp_raiseR
  | apply wp_raise1
  | (refine smallG (by with_unfolding_all rfl) ?_)
  | apply nn_t
  | apply nn_f
  | apply bb_t
  | apply bb_f
  | apply cc_t
  | apply cc_f
  | (refine and_dt (by first | omega | (simp only [List.length_cons, List.length_nil, List.length_map]; omega)) ?_)
  | (refine and_df (by first | omega | (simp only [List.length_cons, List.length_nil, List.length_map]; omega)) ?_)
  | (refine and_dct (by first | omega | (simp only [List.length_cons, List.length_nil, List.length_map]; omega)) ?_)
  | (refine and_dcf (by first | omega | (simp only [List.length_cons, List.length_nil, List.length_map]; omega)) ?_)
  | (refine and_nt (by first | omega | (simp only [List.length_cons, List.length_nil, List.length_map]; omega)) ?_)
  | (refine and_nf (by first | omega | (simp only [List.length_cons, List.length_nil, List.length_map]; omega)) ?_)
  | apply and_it
  | apply and_if
  | (refine nonD_t (by with_unfolding_all rfl) ?_)
  | (refine nonD_f (by with_unfolding_all rfl) ?_)
  | (refine nnonD_t (by with_unfolding_all rfl) ?_)
  | (refine nnonD_f (by with_unfolding_all rfl) ?_)
  | (refine isaG_t (by with_unfolding_all rfl) ?_)
  | (refine isaG_f (by with_unfolding_all rfl) ?_)
  | (refine Exists.intro _ (And.intro (by with_unfolding_all rfl) ?_))
  | (refine Exists.intro _ (Exists.intro _ (And.intro (by with_unfolding_all rfl) (And.intro (by with_unfolding_all rfl) ?_)))))
local macro_rules | `(tactic| array_mem_dec) => `(tactic| (refine wpF_run' rfl (by (simp only [frame]; rfl)) ?_))
theorem eq_str (neg : Bool) {x : Str} (hx : PyData.strOk x = true) : oEqD neg (.str x) (.str x) = some (.bl (!neg)) := by
  unfold oEqD
  have e : toPy (.str x) = some (.str x) := by simp only [toPy]
  have e2 : SeqAt.shaped (.str x) = true := by
    unfold SeqAt.shaped
    simp only [PyData.canLay0, PyData.depth, hx]
    rfl
  have e3 : PyData.eqv (.str x) (.str x) = true := by simp only [PyData.eqv, beq_self_eq_true]
  simp only [e, e2, Bool.and_self, if_true, e3]
  cases neg <;> rfl
theorem eq_due {due : D} (h : due = wtD ∨ due = chg ∨ due = mny) : oEqD true due due = some (.bl false) := by
  rcases h with rfl | rfl | rfl
  · exact eq_str true (by decide +kernel)
  · exact eq_str true (by decide +kernel)
  · unfold oEqD mny
    have e : toPy (.tup [.str "many", .int 6]) = some (.tuple [.str "many", .int 6]) := by simp only [toPy, toPyL, Option.map_some]
    have e2 : SeqAt.shaped (.tuple [.str "many", .int 6]) = true := by decide +kernel
    have e3 : PyData.eqv (.tuple [.str "many", .int 6]) (.tuple [.str "many", .int 6]) = true := by simp only [PyData.eqv, PyData.eqvAll, beq_self_eq_true, Bool.and_self]
    simp only [e, e2, Bool.and_self, if_true, e3]
    rfl
theorem pr_wat {n : Nat} {w : Wat} (h : OkW n w) (hn : n ≤ 8) : Pr 2 20000 (dWat w) := by
  obtain ⟨gap, wide, low, high, marks⟩ := w
  have hl := h.rg.len h.up
  refine (pr_tup (n := 1) (k := 2000) (ds := [.int gap, dOpt wide, .int low, .int high, dTup marks]) (fun d hd => ?_)).mono (by decide) (by simp)
  have hg1 := h.g1
  have hg2 := h.g30
  have hl0 := h.l0
  have hlh := h.lh
  have hh := h.h30
  simp only at hg1 hg2 hl0 hlh hh hl
  simp only [List.mem_cons, List.not_mem_nil, or_false] at hd
  rcases hd with rfl | rfl | rfl | rfl | rfl
  · exact (pr_int (log_small (by omega))).mono
  · cases wide with
    | none => exact pr_non.mono
    | some v =>
      have := h.wd v rfl
      simp only at this
      exact (pr_int (log_small (by omega))).mono
  · exact (pr_int (log_small (by omega))).mono
  · exact (pr_int (log_small (by omega))).mono
  · exact pr_dTup (fun x hx => by have := h.rg x hx; omega) (by omega)
theorem law_true : LawTrue F_law := by
  intro ns hl hbits
  have key : wpF F_law [.scr ns] [] (fun d _ => d = .bl true) NoE := by
    array_mem_dec
    unfold b_law
    repeat array_get_dec
    refine deck_of_wp hl (n := 12 * 300) (by decide) fun c dk => ?_
    repeat array_get_dec
    unfold b_law_11
    repeat array_get_dec
    refine ⟨_, rfl, ?_⟩
    refine wp_forGo (fun rem s => ∃ c e2 e3 e4 e5 e6 e7 e8 e9 e10 e11, Deck (rem.length * 300) c ∧ s = ⟨[some (.val (.scr ns)), some (.val (.cel 0)), e2, e3, e4, e5, e6, e7, e8, e9, e10, e11], c⟩) ?_ ?_ _ _ ⟨c, _, _, _, _, _, _, _, _, _, _, dk, rfl⟩
    · rintro d ds s ⟨c, e2, e3, e4, e5, e6, e7, e8, e9, e10, e11, dk, rfl⟩
      have dk : Deck (ds.length * 300 + 200 + 100) c := dk.mono (by rw [List.length_cons]; omega)
      repeat array_get_dec
      unfold b_law_10
      repeat array_get_dec
      refine some_program_wp dk (many := 8) (by decide) (by decide) fun P c1 hP _ dk1 => ?_
      repeat array_get_dec
      unfold b_law_9
      repeat array_get_dec
      have hhi := hP.hi
      have hlo := hP.lo
      have hlp : (List.map dPlace P).length = P.length := List.length_map ..
      rw [hlp]
      refine some_watcher_wp (n := ds.length * 300 + 180) dk1 hhi fun w c2 hW dk2 => ?_
      repeat array_get_dec
      unfold b_law_8
      repeat array_get_dec
      refine wpF_ok (source_run hP hW _) ?_
      repeat array_get_dec
      rw [hlp]
      refine some_weights_wp (n := ds.length * 300 + 160) dk2 (by omega) hhi fun ws c3 hwl hws dk3 => ?_
      repeat array_get_dec
      unfold b_law_7
      repeat array_get_dec
      refine some_offers_wp (n := ds.length * 300 + 120) hP hW dk3 fun os c4 hos dk4 => ?_
      repeat array_get_dec
      refine below_wp (n := ds.length * 300 + 119) dk4 (by decide) (by decide) fun wh c5 wh0 wh9 dk5 => ?_
      repeat array_get_dec
      unfold b_law_6
      repeat array_get_dec
      refine pick_wp (n := ds.length * 300 + 118) dk5 (by simp) (by simp) fun bd c6 hbd dk6 => ?_
      have hbits : ∃ b : Int, bd = .int b ∧ 1 ≤ b ∧ b ≤ 3 := by
        simp only [List.mem_cons, List.not_mem_nil, or_false] at hbd
        rcases hbd with rfl | rfl | rfl
        · exact ⟨1, rfl, by decide, by decide⟩
        · exact ⟨2, rfl, by decide, by decide⟩
        · exact ⟨3, rfl, by decide, by decide⟩
      obtain ⟨b, rfl, b1, b3⟩ := hbits
      repeat array_get_dec
      unfold b_law_5
      refine wp_mid (fun s' => ∃ O due c', Pr 3 20000 O ∧ Deck (ds.length * 300 + 100) c' ∧ (due = .non ∨ (OddO P w O due ∧ (wh < 2 ∨ 6 ≤ wh))) ∧
        s' = ⟨[some (.val (.scr ns)), some (.val (.cel 0)), some (.val d), some (.val (dProg P)), some (.val (dWat w)), some (.val (dSrc P w)), some (.val (dTup ws)), some (.val O), some (.val (.int wh)), some (.val due), some (.val (.int b)), e11], c'⟩) ?_ ?_
      · have stay : ∃ O due c', Pr 3 20000 O ∧ Deck (ds.length * 300 + 100) c' ∧ (due = .non ∨ (OddO P w O due ∧ (wh < 2 ∨ 6 ≤ wh))) ∧
          (⟨[some (.val (.scr ns)), some (.val (.cel 0)), some (.val d), some (.val (dProg P)), some (.val (dWat w)), some (.val (dSrc P w)), some (.val (dTup ws)), some (.val (.lst (os.map dOff))), some (.val (.int wh)), some (.val .non), some (.val (.int b)), e11], c6⟩ : S) = ⟨[some (.val (.scr ns)), some (.val (.cel 0)), some (.val d), some (.val (dProg P)), some (.val (dWat w)), some (.val (dSrc P w)), some (.val (dTup ws)), some (.val O), some (.val (.int wh)), some (.val due), some (.val (.int b)), e11], c'⟩ := by
          refine ⟨_, _, c6, ?_, dk6.mono, .inl rfl, rfl⟩
          refine (pr_lst (n := 1) (k := 300) (fun x hx => ?_)).mono (by decide) (by rw [List.length_map]; have := hos.le; omega)
          obtain ⟨o, ho, rfl⟩ := List.mem_map.mp hx
          have := off_bounds hP (hos.ok o ho).1 (hos.ok o ho).2
          exact pr_off this.1 this.2
        repeat array_get_dec
        refine ⟨fun _ => ?_, fun _ => ?_⟩
        · repeat array_get_dec
          refine ⟨fun hi => ?_, fun hi => ?_⟩
          · have hi2 : wh < 2 ∨ 6 ≤ wh := by
              have hi3 : (!([2, 3, 4, 5] : List Int).contains wh) = true := by
                rw [← inV_ints wh [2, 3, 4, 5]]
                exact hi
              simp at hi3
              omega
            repeat array_get_dec
            refine odd_offers_wp (n := ds.length * 300 + 108) hP hW hos dk6 fun O due c7 hO hpr dk7 => ?_
            repeat array_get_dec
            exact ⟨rfl, O, due, c7, hpr, dk7.mono, .inr ⟨hO, hi2⟩, rfl⟩
          · repeat array_get_dec
            exact ⟨rfl, stay⟩
        · repeat array_get_dec
          exact ⟨rfl, stay⟩
      · rintro s ⟨O, due, c7, hO, dk7, hdue, rfl⟩
        unfold b_law_4
        refine wp_mid (fun s' => ∃ W O due c', Pr 3 20000 W ∧ Pr 3 20000 O ∧ Deck (ds.length * 300) c' ∧
          (due = .non ∨ (due = wtD ∧ wh < 6 ∧ OddW P.length W) ∨ (OddO P w O due ∧ (6 ≤ wh ∨ (wh < 2 ∧ ∀ cells, F_need_weights [dSrc P w, W] cells = .ok .non cells)))) ∧
          s' = ⟨[some (.val (.scr ns)), some (.val (.cel 0)), some (.val d), some (.val (dProg P)), some (.val (dWat w)), some (.val (dSrc P w)), some (.val W), some (.val O), some (.val (.int wh)), some (.val due), some (.val (.int b)), e11], c'⟩) ?_ ?_
        · have hwb : ∀ x ∈ ws, x.natAbs < 2 ^ 40 := fun x hx => by
            have := hws x hx
            unfold wOk at this
            omega
          have stay : ∃ W O' due' c', Pr 3 20000 W ∧ Pr 3 20000 O' ∧ Deck (ds.length * 300) c' ∧
            (due' = .non ∨ (due' = wtD ∧ wh < 6 ∧ OddW P.length W) ∨ (OddO P w O' due' ∧ (6 ≤ wh ∨ (wh < 2 ∧ ∀ cells, F_need_weights [dSrc P w, W] cells = .ok .non cells)))) ∧
            (⟨[some (.val (.scr ns)), some (.val (.cel 0)), some (.val d), some (.val (dProg P)), some (.val (dWat w)), some (.val (dSrc P w)), some (.val (dTup ws)), some (.val O), some (.val (.int wh)), some (.val due), some (.val (.int b)), e11], c7⟩ : S) = ⟨[some (.val (.scr ns)), some (.val (.cel 0)), some (.val d), some (.val (dProg P)), some (.val (dWat w)), some (.val (dSrc P w)), some (.val W), some (.val O'), some (.val (.int wh)), some (.val due'), some (.val (.int b)), e11], c'⟩ := by
            refine ⟨dTup ws, O, due, c7, (pr_dTup hwb (by omega)).mono, hO, dk7.mono, ?_, rfl⟩
            rcases hdue with h | ⟨h, h2⟩
            · exact .inl h
            · refine .inr (.inr ⟨h, ?_⟩)
              rcases h2 with h2 | h2
              · exact .inr ⟨h2, need_weights_ok hP hwl hws⟩
              · exact .inl h2
          repeat array_get_dec
          refine ⟨fun _ => ?_, fun _ => ?_⟩
          · repeat array_get_dec
            refine ⟨fun h6 => ?_, fun h6 => ?_⟩
            · have h6 := of_decide_eq_true h6
              repeat array_get_dec
              refine odd_weights_wp (n := ds.length * 300 + 95) dk7 (by omega) (by omega) hws fun W c8 hW8 hpr dk8 => ?_
              repeat array_get_dec
              rw [hwl] at hW8
              exact ⟨rfl, W, O, wtD, c8, hpr, hO, dk8.mono, .inr (.inl ⟨rfl, h6, hW8⟩), rfl⟩
            · repeat array_get_dec
              exact ⟨rfl, stay⟩
          · repeat array_get_dec
            exact ⟨rfl, stay⟩
        · rintro s ⟨W, O, due, c8, hprW, hprO, dk8, hdue, rfl⟩
          have hpr2 : Pr 4 100000 (.tup [W, O]) := by
            refine (pr_tup (n := 3) (k := 20000) (ds := [W, O]) (fun x hx => ?_)).mono (by decide) (by simp)
            simp only [List.mem_cons, List.not_mem_nil, or_false] at hx
            rcases hx with rfl | rfl
            · exact hprW
            · exact hprO
          obtain ⟨rx, hrx, hsx⟩ := pr_repr hpr2 rfl (by decide) (by decide)
          obtain ⟨ry, hry, hsy⟩ := pr_repr (pr_wat hW hhi) rfl (by decide) (by decide)
          unfold b_law_3
          repeat array_get_dec
          refine ⟨_, hrx, ?_⟩
          repeat array_get_dec
          unfold b_law_2
          refine wp_mid (fun s' => s' = ⟨[some (.val (.scr ns)), some (.val (.cel 0)), some (.val d), some (.val (dProg P)), some (.val (dWat w)), some (.val (dSrc P w)), some (.val W), some (.val O), some (.val (.int wh)), some (.val due), some (.val (.int b)), some (.val (.str rx))], c8⟩) ?_ ?_
          · have refu : ∀ {e : Exc}, ((e = nwExc ∧ due = wtD) ∨ (e = ncExc ∧ due = chg) ∨ (e = tmExc ∧ due = mny)) → (wh < 6 → ∀ cells, F__law_asked [.int wh, dSrc P w, W, O] cells = .exc e cells) → (6 ≤ wh → ∀ x cells, F_marked [dSrc P w, O, x] cells = .exc e cells) → F__law_refusal [.int wh, dSrc P w, W, O] c8 = .ok due c8 := fun hk ha hm => refusal_of dk8 hk wh0 wh9 ha hm
            have hdue2 : due = .non ∨ ((due = wtD ∨ due = chg ∨ due = mny) ∧ F__law_refusal [.int wh, dSrc P w, W, O] c8 = .ok due c8) := by
              rcases hdue with h | ⟨h, h6, hW6⟩ | ⟨h, h2⟩
              · exact .inl h
              · exact .inr ⟨.inl h, refu (.inl ⟨rfl, h⟩) (fun _ => asked_w hP hW6 wh0 h6) fun h7 => by omega⟩
              · have hn : wh < 6 → wh < 2 ∧ ∀ cells, F_need_weights [dSrc P w, W] cells = .ok .non cells := fun h6 => by
                  rcases h2 with h2 | h2
                  · omega
                  · exact h2
                rcases h with ⟨h, ho⟩ | ⟨h, ho⟩
                · exact .inr ⟨.inr (.inl h), refu (.inr (.inl ⟨rfl, h⟩)) (fun h6 => asked_o (hn h6).2 ho wh0 (hn h6).1) fun _ x => marked_o ho⟩
                · exact .inr ⟨.inr (.inr h), refu (.inr (.inr ⟨rfl, h⟩)) (fun h6 => asked_o (hn h6).2 ho wh0 (hn h6).1) fun _ x => marked_o ho⟩
            rcases hdue2 with rfl | ⟨h3, href⟩
            · repeat array_get_dec
              exact ⟨rfl, rfl⟩
            · have hnn : isNonD due = false := by
                rcases h3 with rfl | rfl | rfl <;> rfl
              have hdd : ∀ s, deref s due = due := fun s => by
                rcases h3 with rfl | rfl | rfl <;> rfl
              repeat array_get_dec
              refine nnonD_f (by rw [hdd]; exact hnn) ?_
              repeat array_get_dec
              refine wpF_ok href ?_
              repeat array_get_dec
              rw [hdd]
              refine eqG_of (eq_due h3) ?_
              repeat array_get_dec
              exact ⟨rfl, rfl⟩
          · rintro s rfl
            unfold b_law_1
            repeat array_get_dec
            refine ⟨_, hrx, ?_⟩
            repeat array_get_dec
            refine eqG_of (eq_str true hsx) ?_
            repeat array_get_dec
            refine ⟨_, hry, ?_⟩
            repeat array_get_dec
            refine ⟨_, hry, ?_⟩
            repeat array_get_dec
            refine eqG_of (eq_str true hsy) ?_
            repeat array_get_dec
            exact ⟨c8, _, _, _, _, _, _, _, _, _, _, dk8, rfl⟩
    · rintro s ⟨c, e2, e3, e4, e5, e6, e7, e8, e9, e10, e11, dk, rfl⟩
      repeat array_get_dec
      rfl
  obtain ⟨d, c, e, rfl⟩ := wpF_ex key
  exact ⟨c, e⟩
end K55
set_option Elab.async false
set_option linter.all false
set_option maxRecDepth 100000
set_option maxHeartbeats 0
open PySem PySem.W PySem.Calls PyProof.Rows
theorem PySem.Challenge.cw_skidblame_k55_mends_refused_holds : PySem.Challenge.rw_skidblame_k55_mends_refused.Holds := by
  refine K55.holds_of fun KX G c => ?_
  have GG := K55.glob_of KX G c
  obtain ⟨fd, F⟩ := GG.d_law
  exact ⟨fd, K55.F_law, GG.f_law, fun s u => F.bindsA (ps := ["script"]) (fun _ _ _ _ _ _ us hl => match us, hl with | [_], _ => rfl) s [u] rfl, K55.law_true, fun w base _ _ => K55.D_law GG F⟩
