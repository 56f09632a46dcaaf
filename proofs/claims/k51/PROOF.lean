import PyProof.Rows.All
import Wide.All
import OpenK.AllK
import Wide.FinOn
import KE.KStateDown
import HandS.Words
import HandS.Head0
import HandS.Head1
import HandS.Head2
import HandS.HeadEnd
import HandS.HeadHook1
import HandS.HeadHook2
import PySem.Challenge.RW_boltwatch_k51_whole_guards
import HandS.ForMost
import HandS.ForExc
import HandS.TupAny
import HandS.TupMul
import HandS.Deep
import HandS.Style
import HandS.IsInst
import HandS.Flow
import HandS.CallSlots
import HandS.More
import KE.GoesEnum
import HandS.Zip
import HandS.SortInts
import HandS.ExcIs
import HandS.HotCalls
import HandS.TupSets
import HandS.Strs
import HandS.Conv
import HandS.Sort
import PyProof.ListRange
import HandS.SuiteRaise
import KE.SortData
import HandS.TryOnly
import HandS.SetFor
set_option Elab.async false
set_option linter.all false
set_option maxRecDepth 100000
set_option maxHeartbeats 4000000
namespace BW
open PySem PySem.Spec PyProof.Rows L2
section
variable (K : PySem.W.Frag)
def gloB (x : Str) : Bool := He.eqO (PySem.W.nsIn K mainGlobals x) (some (some (.ref (He.ga K x))))
def freeB (x : Str) : Bool := He.eqO (PySem.W.nsIn K mainGlobals x) (some none)
def xB (x : Str) : Bool := gloB K x && (PySem.W.excIn K (He.ga K x) He.veBase "ValueError.__new__" && (PySem.W.keepIn K (.ref (He.ga K x)) && (decide (PySem.W.subIn K (.ref (He.ga K x)) (.type "BaseException") = some true) && decide (PySem.W.typeIn K (.ref (He.ga K x)) = some (.type "type")))))
def ecB (x : Str) : Bool := He.eqO (PySem.W.findIn K (.ref (He.ga K x)) "__getattribute__") (some (some (.builtin "BaseException.__getattribute__"))) && (He.eqO (PySem.W.findIn K (.ref (He.ga K x)) "__getattr__") (some none) && (decide (PySem.W.subIn K (.ref (He.ga K x)) (.type "BaseException") = some true) && (PySem.W.hasDictIn K (He.ga K x) && (He.eqO (PySem.W.findIn K (.ref (He.ga K x)) "__class__") (some (some (.builtin "object.__class__"))) &&
  (He.eqO (PySem.W.specialIn K (.builtin "object.__class__") "__get__") (some (some (.builtin "getset_descriptor.__get__"))) && (decide (PySem.W.takesIn K (.builtin "object.__class__") = some true) && decide (PySem.W.mroIn K (He.ga K x) (.type "object") = some true)))))))
def isaB (c d : Str) : Bool := decide (PySem.W.kitOne K (.ref (He.ga K c)) (.ref (He.ga K d)) = some ((c == d)))
def isvB (c : Str) : Bool := decide (PySem.W.kitOne K (.ref (He.ga K c)) (.type "ValueError") = some true)
def exmB (c : Str) : Bool := decide (PySem.W.exmOne K (.ref (He.ga K c)) (.ref (He.ga K "BoltError")) = some true)
def excsB (all xs ys : List Str) : Bool := all.all (xB K) && (xs.all (ecB K) && (xs.all (fun c => ys.all (isaB K c)) && (xs.all (isvB K) && (xs.all (exmB K) && freeB K "ValueError"))))
def clsB (c : Str) (fs : List Str) : Bool := gloB K c && (PySem.W.plainGet K (He.ga K c) Str.empty && (PySem.W.hasDictIn K (He.ga K c) && (PySem.W.plainOver K (He.ga K c) && (He.eqO (PySem.W.findIn K (.ref (He.ga K c)) "__setattr__") (some (some (.builtin "object.__setattr__"))) && (PySem.W.makesIn K (He.ga K c) && (PySem.W.keepIn K (.ref (He.ga K c)) && fs.all fun f => He.eqO (PySem.W.findIn K (.ref (He.ga K c)) f) (some none)))))))
def intB (x : Str) (i : Int) : Bool := match PySem.W.nsIn K mainGlobals x with
  | some (some (.int j _)) => decide (j = i)
  | _ => false
def strB (x z : Str) : Bool := match PySem.W.nsIn K mainGlobals x with
  | some (some (.str y _)) => decide (y = z)
  | _ => false
def tupB (x : Str) (vs : List V) : Bool := gloB K x && (match K.lookup (He.ga K x) with
  | some ⟨c, d, .seq its _, _⟩ => decide (c = .type "tuple") && (decide (d = none) && (decide (its.toList.length ≤ 100) && He.relAll vs its.toList))
  | _ => false)
def fnB (d : He.FnD) : Bool := PySem.W.keepIn K (.ref (He.fAd K d.at_)) && (match d.at_ with
  | (x, none) => gloB K x
  | (c, some m) => He.eqO (PySem.W.findIn K (.ref (He.ga K c)) m) (some (some (.ref (He.ma K (He.ga K c) m)))) && PySem.W.isFn K (.ref (He.ma K (He.ga K c) m)))
end
def dFn (at_ : Str × Option Str) (x q : Str) (st : Stmt) : He.FnD := ⟨at_, x, q, defArgs st, defBody st, defScope st⟩
def obsB (fa : PySem.W.Frag → Bool) (fn : List He.FnD) (K : PySem.W.Frag) : He.Al := (fa K && fn.all fun d => fnB K d && (He.Fa.code d.at_ d.qual).ok K, fn.map fun d => He.fnObs K d.at_)
def SaysB (fa : PySem.W.Frag → Bool) (fn : List He.FnD) (K : PySem.W.Frag) : Prop := obsB fa fn K = He.valE fn
/-- the module's names, what they name, and all that the top made -/
def asB (g : Addr → Option Obj) (n : Nat) : List Addr := mainGlobals :: ((match g mainGlobals with
  | some o => He.refsO o
  | none => []) ++ List.range' 11 n)
def obsBG (n : Nat) (fa : PySem.W.Frag → Bool) (fn : List He.FnD) (g : Addr → Option Obj) : He.Al := obsB fa fn (He.frG g (asB g n))
def hookB (n : Nat) (fa : PySem.W.Frag → Bool) (fn : List He.FnD) : PySem.W.Hook where
  α := He.Al
  obs := fun s => obsBG n fa fn s.heap.get?
  val := fun _ => He.valE fn
  says := fun _ h => ∃ K : PySem.W.Frag, K.In h ∧ SaysB fa fn K
  of := fun _ _ e => ⟨_, He.frG_in, e⟩
  keeps := fun _ _ _ ⟨K, hK, c⟩ k => ⟨K, PySem.W.Frag.In.keeps hK k, c⟩
theorem obsBG_eq {n : Nat} {fa : PySem.W.Frag → Bool} {fn : List He.FnD} {g : Addr → Option Obj} {s : Shared} (h : ∀ a, g a = s.heap.get? a) : obsBG n fa fn g = (hookB n fa fn).obs s := by
  have e : g = s.heap.get? := funext h
  rw [e] <;> rfl
end BW
namespace BW
open PySem PySem.Spec PyProof.Rows L2
def hS (i : Nat) : Stmt := PySem.Challenge.pw_boltwatch_k51_whole_guards.main.body.getD i (.Pass ⟨0, 0, 0, 0⟩)
def h_loose0 : List Str := ["_wall", "BoltError", "NoHouse", "NoMode", "NoEye", "NoTime", "NotOff", "Ajar", "NotSet", "NoName", "NoCode", "NoRight", "Taken", "Wrong", "Locked", "LETTERS", "FIGURES", "RIGHTS", "is_name", "is_code", "are_rights", "Codes", "HOWS", "MOST_ROOMS", "MOST_DOORS", "MOST_EYES", "MOST_MODES", "is_number", "do_rise", "are_doors"]
def h_loose1 : List Str := ["is_eye", "are_eyes", "is_mode", "is_house", "need_house", "need_mode", "evers", "eye_at", "Stand", "Panel", "Guard", "_law_cell", "_law_drawn", "_law_doors", "_law_house", "_law_told"]
def h_loose : List Str := h_loose0 ++ h_loose1
def h_fn0 : List He.FnD := [dFn ("_law_cell", none) "_law_cell" "_law_cell" (hS 47), dFn ("_law_drawn", none) "_law_drawn" "_law_drawn" (hS 48), dFn ("_law_doors", none) "_law_doors" "_law_doors" (hS 49), dFn ("_law_house", none) "_law_house" "_law_house" (hS 50), dFn ("is_number", none) "is_number" "is_number" (hS 30), dFn ("is_eye", none) "is_eye" "is_eye" (hS 33), dFn ("are_eyes", none) "are_eyes" "are_eyes" (hS 34), dFn ("do_rise", none) "do_rise" "do_rise" (hS 31), dFn ("are_doors", none) "are_doors" "are_doors" (hS 32), dFn ("is_mode", none) "is_mode" "is_mode" (hS 35), dFn ("is_house", none) "is_house" "is_house" (hS 36), dFn ("need_house", none) "need_house" "need_house" (hS 37), dFn ("Stand", some "__init__") "__init__" "Stand.__init__" (inClass (hS 42) 0), dFn ("Panel", some "__init__") "__init__" "Panel.__init__" (inClass (hS 43) 0), dFn ("Codes", some "__init__") "__init__" "Codes.__init__" (inClass (hS 23) 0), dFn ("Guard", some "__init__") "__init__" "Guard.__init__" (inClass (hS 45) 0), dFn ("is_name", none) "is_name" "is_name" (hS 20), dFn ("is_code", none) "is_code" "is_code" (hS 21), dFn ("are_rights", none) "are_rights" "are_rights" (hS 22), dFn ("Codes", some "who") "who" "Codes.who" (inClass (hS 23) 3), dFn ("Codes", some "give") "give" "Codes.give" (inClass (hS 23) 1), dFn ("Guard", some "give") "give" "Guard.give" (inClass (hS 45) 1), dFn ("Panel", some "log") "log" "Panel.log" (inClass (hS 43) 22), dFn ("Panel", some "twin") "twin" "Panel.twin" (inClass (hS 43) 26), dFn ("Guard", some "shown") "shown" "Guard.shown" (inClass (hS 45) 9), dFn ("Panel", some "clock") "clock" "Panel.clock" (inClass (hS 43) 17), dFn ("Guard", some "need_time") "need_time" "Guard.need_time" (inClass (hS 45) 3), dFn ("Codes", some "locked_at") "locked_at" "Codes.locked_at" (inClass (hS 23) 5), dFn ("Codes", some "ask") "ask" "Codes.ask" (inClass (hS 23) 6), dFn ("Stand", some "copy") "copy" "Stand.copy" (inClass (hS 42) 1)]
def h_fn1 : List He.FnD := [dFn ("Panel", some "ring") "ring" "Panel.ring" (inClass (hS 43) 2), dFn ("Panel", some "hush") "hush" "Panel.hush" (inClass (hS 43) 3), dFn ("evers", none) "evers" "evers" (hS 39), dFn ("Panel", some "eyes_by") "eyes_by" "Panel.eyes_by" (inClass (hS 43) 1), dFn ("Panel", some "trip") "trip" "Panel.trip" (inClass (hS 43) 4), dFn ("Panel", some "turn_by_time") "turn_by_time" "Panel.turn_by_time" (inClass (hS 43) 5), dFn ("Panel", some "behind") "behind" "Panel.behind" (inClass (hS 43) 6), dFn ("need_mode", none) "need_mode" "need_mode" (hS 38), dFn ("Panel", some "turn_to") "turn_to" "Panel.turn_to" (inClass (hS 43) 7), dFn ("Panel", some "arm") "arm" "Panel.arm" (inClass (hS 43) 8), dFn ("Guard", some "set_by") "set_by" "Guard.set_by" (inClass (hS 45) 4), dFn ("Panel", some "lift") "lift" "Panel.lift" (inClass (hS 43) 9), dFn ("Guard", some "lift_by") "lift_by" "Guard.lift_by" (inClass (hS 45) 5), dFn ("_law_told", none) "_law_told" "_law_told" (hS 51), dFn ("Codes", some "names") "names" "Codes.names" (inClass (hS 23) 4), dFn ("Guard", some "names") "names" "Guard.names" (inClass (hS 45) 11), dFn ("Codes", some "take") "take" "Codes.take" (inClass (hS 23) 2), dFn ("Guard", some "take") "take" "Guard.take" (inClass (hS 45) 2), dFn ("Panel", some "wait") "wait" "Panel.wait" (inClass (hS 43) 15), dFn ("Guard", some "done_by") "done_by" "Guard.done_by" (inClass (hS 45) 12), dFn ("law", none) "law" "law" (hS 52)]
def h_fn : List He.FnD := h_fn0 ++ h_fn1
def h_fa (K : PySem.W.Frag) : Bool := excsB K ["BoltError", "NoHouse", "NoMode", "NoEye", "NoTime", "NotOff", "Ajar", "NotSet", "NoName", "NoCode", "NoRight", "Taken", "Wrong", "Locked"] ["NoHouse", "NoMode", "NoEye", "NoTime", "NotOff", "Ajar", "NotSet", "NoName", "NoCode", "NoRight", "Taken", "Wrong", "Locked"] ["NotOff", "NoRight", "Locked", "Wrong", "Ajar", "NotSet"] && (clsB K "Codes" ["tries", "rest", "rows", "misses", "since", "shut", "last"] && (clsB K "Stand" ["word", "end", "mode", "without", "wide", "last", "rings", "cause", "rows"] && (clsB K "Panel" ["house", "leaving", "entering", "ringing", "here", "gone", "coming"] && (clsB K "Guard" ["panel", "codes", "acts"] && (strB K "LETTERS" "abcdefghijklmnopqrstuvwxyz" && (strB K "FIGURES" "0123456789" && (tupB K "RIGHTS" [(.str "lift"), (.str "set")] && (tupB K "HOWS" [(.str "soon"), (.str "late"), (.str "after"), (.str "ever")] && (intB K "MOST_ROOMS" (6) && (intB K "MOST_DOORS" (10) && (intB K "MOST_EYES" (12) && (intB K "MOST_MODES" (3) && ((["len", "isinstance", "int", "bool", "str", "tuple", "list", "set", "dict", "all", "zip", "enumerate", "range", "sorted", "min", "max", "sum"] : List Str).all (freeB K))))))))))))))
abbrev h_hk : PySem.W.Hook := hookB 1200 h_fa h_fn
def h_ob (s : PySem.W.SharedT) : He.Al := obsBG 1200 h_fa h_fn (HandSHeadRun.getT s)
theorem h_ob_eq (s : PySem.W.SharedT) : h_ob s = h_hk.obs s.abs := obsBG_eq (HandSHeadRun.getT_eq s)
set_option maxHeartbeats 0 in
theorem h_run (w : World) : HandSHeadRun.RunEq (PySem.W.OpenLaw.row PySem.Challenge.rw_boltwatch_k51_whole_guards) (PySem.W.view (PySem.W.OpenLaw.row PySem.Challenge.rw_boltwatch_k51_whole_guards).prog [52]) h_hk h_ob 20000 h_loose w := by
  intro os
  kernel_rfl
end BW
namespace BW
open PySem PySem.Spec PyProof.Rows L2
def tOb (us : List Value) : Obj := { cls := .type "tuple", data := .seq us.toArray }
section
variable {X : Cx} {pins : List (Addr × Obj)} {σ : L2.St} {H : Hp} {s : Shared}
theorem laidT {us : List Value} {xs : List V} (I : Inv X pins σ H s) (hr : Vals xs us) (hz : xs.length ≤ sizeLine) :
    Inv X pins σ (upd H s.heap.objs.size (.frz (tOb us) (.tup xs))) { s with heap := s.heap.push (tOb us) } ∧ H s.heap.objs.size = none := by
  have new : ObjOk X.prog X.w (upd H s.heap.objs.size (.frz (tOb us) (.tup xs))) (s.heap.push (tOb us)) s.heap.objs.size (.frz (tOb us) (.tup xs)) :=
    ⟨Heap.get?_push_size _ rfl, hz, us, hr, _, Heap.get?_push_size _ rfl, rfl, _, rfl⟩
  exact ⟨I.laid (t' := s.toks) (fun _ _ q => Heap.get?_push_of_some _ q) (Nat.le_refl _) new, I.hok.fresh (Nat.le_refl _)⟩
/-- a tuple of written items -/
def tTupS (t : TA) : TE := fun σ H Q => t σ H fun xs H1 => xs.length ≤ sizeLine ∧ ∀ p o, H1 p = none → o.dict = none → Q (.ref p) (upd H1 p (.frz o (.tup xs)))
theorem pe_tupS {es : List Expr} {t : TA} {x1} {pos : Pos} (ha : PA X es t) : PE X (.Tuple es x1 pos) (tTupS t) :=
  ⟨fun pins s σ H Q I hq => wpAny_Tuple_spliced (thn (ha.run pos pins s σ H _ I hq) fun us s1 ⟨xs, H1, I1, hr, hz, hQ⟩ =>
    ⟨by rw [← hr.length]; exact hz, let J := laidT I1 hr hz; ⟨.ref s1.heap.objs.size, _, J.1, rfl, hQ _ _ J.2 rfl⟩⟩)⟩
/-- one tuple behind another -/
def rCatS (K : PySem.W.Frag) : R2 := fun x y H Q => ∃ a b xs ys, x = .ref a ∧ y = .ref b ∧ SqT K H a xs ∧ SqT K H b ys ∧ xs.length + ys.length ≤ sizeLine ∧
  (xs = [] → Q (.ref b) H) ∧ (xs ≠ [] → ys = [] → Q (.ref a) H) ∧ (xs ≠ [] → ys ≠ [] → ∀ p o, H p = none → o.dict = none → Q (.ref p) (upd H p (.frz o (.tup (xs ++ ys)))))
theorem op_catS : OpR X (binaryOp .Add) (rCatS X.K) := by
  intro pins s σ H x y v u Q I rx ry h
  obtain ⟨a, b, xs, ys, e1, e2, ta, tb, hz, qa, qb, qc⟩ := h
  subst e1 e2
  by_cases hx : xs = []
  · exact op_catA pins s σ H _ _ v u Q I rx ry ⟨a, b, xs, ys, rfl, rfl, ta, tb, hz, qa, qb, fun z => absurd hx z⟩
  · cases rx
    cases ry
    obtain ⟨us, ru, pu, _⟩ := I.tuple ta
    obtain ⟨ws, rw', pw, _⟩ := I.tuple tb
    have hn : us ≠ [] := fun z => hx (ru.nil_iff.mp z)
    refine HT.cat_tup pu pw hn (fun z => ⟨.ref a, H, I, rfl, qb hx (rw'.nil_iff.mp z)⟩) (fun z => ?_) (by rw [← ru.length, ← rw'.length]; exact hz)
    have J := laidT I (ru.append rw') (by rw [List.length_append]; exact hz)
    exact ⟨.ref s.heap.objs.size, _, J.1, rfl, qc hx (fun e => z (rw'.nil_iff.mpr e)) _ _ J.2 rfl⟩
/-- a part of a tuple -/
def rSlS (K : PySem.W.Frag) : V → Option Int → Option Int → Hp → VK → Prop := fun x lo hi H Q => ∃ a xs, x = .ref a ∧ SqT K H a xs ∧
  (HT.sIx xs.length 0 lo = 0 ∧ HT.sIx xs.length xs.length hi = xs.length → Q (.ref a) H) ∧ (¬ (HT.sIx xs.length 0 lo = 0 ∧ HT.sIx xs.length xs.length hi = xs.length) → ∀ p o, H p = none → o.dict = none → Q (.ref p) (upd H p (.frz o (.tup (cutV xs lo hi)))))
theorem sl_tupS : SlR X (rSlS X.K) := by
  intro pins s σ H x v vl vu lo hi sl Q I rx hs pl pu h
  obtain ⟨a, xs, e1, ta, q1, q2⟩ := h
  subst e1
  by_cases hw : HT.sIx xs.length 0 lo = 0 ∧ HT.sIx xs.length xs.length hi = xs.length
  · exact sl_tupA pins s σ H _ v vl vu lo hi sl Q I rx hs pl pu ⟨a, xs, rfl, ta, q1, fun z => absurd hw z⟩
  · cases rx
    obtain ⟨us, ru, pt, hz⟩ := I.tuple ta
    have hn : us.toArray.size = xs.length := by rw [List.size_toArray, ru.length]
    refine ⟨"tuple", _, PyProof.Rows.slot_tuple_getitem.lookup, pt.typeIs, HT.getItem_tuple_cut pt hs pl pu (by rw [hn]; exact hw) ?_ (by rw [hn]; exact hz)⟩
    rw [hn]
    have J := laidT I ((ru.drop (HT.sIx xs.length 0 lo)).take (HT.sIx xs.length xs.length hi - HT.sIx xs.length 0 lo)) (Nat.le_trans (cutV_length xs lo hi) hz)
    exact ⟨.ref s.heap.objs.size, _, J.1, rfl, q2 hw _ _ J.2 rfl⟩
/-- tuple(x) -/
theorem call_tupleS : CallR X (.type "tuple") (fun xs H Q => ∃ p ys, xs = [.ref p] ∧ ((SqL X.K H p ys ∧ ∀ l o, H l = none → o.dict = none → Q (.ref l) (upd H l (.frz o (.tup ys)))) ∨ (SqT X.K H p ys ∧ Q (.ref p) H))) := by
  intro pins s σ H xs us Q I hr h
  obtain ⟨p, ys, e1, h⟩ := h
  subst e1
  rcases h with ⟨hl, q⟩ | ht
  · obtain ⟨u, e2, ru⟩ := vals1 hr
    subst e2
    cases ru
    obtain ⟨ws, rw', pl, hz⟩ := I.list hl
    have hn := rw'.length
    refine call_tuple_list pl.isList (fun h' kp => ?_) (by rw [List.size_toArray]; omega)
    have J := laidT (s := { s with heap := h' }) (I.kept (t' := s.toks) kp) rw' hz
    exact ⟨.ref h'.objs.size, _, J.1, rfl, q _ _ J.2 rfl⟩
  · exact call_tuple_of pins s σ H _ us Q I hr ⟨p, ys, rfl, .inr ht⟩
end
end BW
namespace BW
open PySem L2
inductive D where
  | non | bl (b : Bool) | int (i : Int) | str (x : Str)
  | tup (l : List D) | lst (l : List D) | dic (kvs : List (Key × D))
  | scr (ns : List Int) | ref (n : Nat)
inductive Cell where
  | lst (l : List D) | dic (kvs : List (Key × D)) | ins (c : Str) (fs : List (Str × D)) | dicL (kvs : List (Key × D))
abbrev Store := List Cell
inductive Slot where
  | dat (d : D) | own (l : List D) | ownd (kvs : List (Key × D)) | adr (a : Addr)
abbrev Env := List (Option Slot)
inductive Res (α : Type) where
  | ok (a : α) (S : Store) | err (c : Str) (S : Store) | bad
def Res.bind {α β : Type} (r : Res α) (k : α → Store → Res β) : Res β := match r with
  | .ok a S => k a S
  | .err c S => .err c S
  | .bad => .bad
def Res.of {α : Type} (S : Store) : Option α → Res α
  | some a => .ok a S
  | none => .bad
structure Wd where
  n : Nat
  k : Nat → Addr
  F : Hp
/-- a tuple's object has no dict of its own -/
def TD (K : PySem.W.Frag) (F : Hp) (a : Addr) : Prop := (∃ o u, F a = some (.frz o u) ∧ o.dict = none) ∨ ∃ o, K.lookup a = some o ∧ o.cls = .type "tuple" ∧ o.dict = none
section
variable (K : PySem.W.Frag) (w : Wd)
mutual
inductive R : V → D → Prop
  | non : R .non .non
  | bl (b : Bool) : R (.bl b) (.bl b)
  | int (i : Int) : R (.int i) (.int i)
  | str (x : Str) : R (.str x) (.str x)
  | tup {a : Addr} {vs : List V} {l : List D} : SqT K w.F a vs → TD K w.F a → RA vs l → R (.ref a) (.tup l)
  | lst {a : Addr} {vs : List V} {l : List D} : w.F a = some (.lst vs) → RA vs l → R (.ref a) (.lst l)
  | dic {a : Addr} {o : Obj} {vs : List (Key × V)} {l : List (Key × D)} : w.F a = some (.frz o (.dK vs)) → RK vs l → R (.ref a) (.dic l)
  | scr {a : Addr} {ns : List Int} : SqL K w.F a (ns.map V.int) → R (.ref a) (.scr ns)
  | ref {i : Nat} : i < w.n → R (.ref (w.k i)) (.ref i)
inductive RA : List V → List D → Prop
  | nil : RA [] []
  | cons {v : V} {d : D} {vs : List V} {ds : List D} : R v d → RA vs ds → RA (v :: vs) (d :: ds)
inductive RK : List (Key × V) → List (Key × D) → Prop
  | nil : RK [] []
  | cons {k : Key} {v : V} {d : D} {vs : List (Key × V)} {ds : List (Key × D)} : R v d → RK vs ds → RK ((k, v) :: vs) ((k, d) :: ds)
end
end
section
variable {K : PySem.W.Frag} {w : Wd}
theorem RA.length : ∀ {vs : List V} {ds : List D}, RA K w vs ds → vs.length = ds.length
  | _, _, .nil => rfl
  | _, _, .cons _ t => by simp [RA.length t]
theorem RA.get : ∀ {vs : List V} {ds : List D} {i : Nat} {d : D}, RA K w vs ds → ds[i]? = some d → ∃ v, vs[i]? = some v ∧ R K w v d
  | _, _, _, _, .nil, e => by simp at e
  | _, _, 0, _, .cons r _, e => by simp at e; subst e; exact ⟨_, rfl, r⟩
  | _, _, i + 1, _, .cons _ t, e => by
    obtain ⟨v, h1, h2⟩ := RA.get (i := i) t (by simpa using e)
    exact ⟨v, by simpa using h1, h2⟩
theorem RA.append : ∀ {vs us : List V} {ds es : List D}, RA K w vs ds → RA K w us es → RA K w (vs ++ us) (ds ++ es)
  | _, _, _, _, .nil, s => s
  | _, _, _, _, .cons r t, s => .cons r (RA.append t s)
theorem RA.one {v : V} {d : D} (r : R K w v d) : RA K w [v] [d] := .cons r .nil
theorem RA.take : ∀ {vs : List V} {ds : List D} (n : Nat), RA K w vs ds → RA K w (vs.take n) (ds.take n)
  | _, _, 0, _ => .nil
  | _, _, _ + 1, .nil => .nil
  | _, _, n + 1, .cons r t => .cons r (RA.take n t)
theorem RA.drop : ∀ {vs : List V} {ds : List D} (n : Nat), RA K w vs ds → RA K w (vs.drop n) (ds.drop n)
  | _, _, 0, r => r
  | _, _, _ + 1, .nil => .nil
  | _, _, n + 1, .cons _ t => RA.drop n t
theorem RA.set {v : V} {d : D} (r : R K w v d) : ∀ {vs : List V} {ds : List D} (i : Nat), RA K w vs ds → RA K w (vs.set i v) (ds.set i d)
  | _, _, _, .nil => .nil
  | _, _, 0, .cons _ t => .cons r t
  | _, _, i + 1, .cons q t => .cons q (RA.set r i t)
theorem RA.flat {vs : List V} {ds : List D} (h : RA K w vs ds) : ∀ k : Nat, RA K w (List.replicate k vs).flatten (List.replicate k ds).flatten
  | 0 => .nil
  | k + 1 => by rw [List.replicate_succ, List.replicate_succ, List.flatten_cons, List.flatten_cons]; exact h.append (RA.flat h k)
end
structure Ext (w : Wd) (H : Hp) (w' : Wd) (H' : Hp) : Prop where
  n : w.n ≤ w'.n
  k : ∀ i, i < w.n → w'.k i = w.k i
  F : Same w.F w'.F
  keep : ∀ a o, H a = some o → (∀ i, i < w.n → w.k i ≠ a) → H' a = some o
  there : ∀ a o, H a = some o → ∃ o', H' a = some o'
  newF : ∀ a o, w'.F a = some o → w.F a = some o ∨ H a = none
  newK : ∀ i, w.n ≤ i → i < w'.n → H (w'.k i) = none
  frz : ∀ a o u, H a = some (.frz o u) → H' a = some (.frz o u)
theorem Ext.refl (w : Wd) (H : Hp) : Ext w H w H := ⟨Nat.le_refl _, fun _ _ => rfl, Same.refl _, fun _ _ h _ => h, fun _ o h => ⟨o, h⟩, fun _ _ h => .inl h, fun i h1 h2 => absurd (Nat.lt_of_lt_of_le h2 h1) (Nat.lt_irrefl _), fun _ _ _ h => h⟩
theorem Ext.back {w w1 : Wd} {H H1 : Hp} (a : Ext w H w1 H1) {x : Addr} (h : H1 x = none) : H x = none := by
  cases e : H x with
  | none => rfl
  | some o =>
    obtain ⟨o', q⟩ := a.there x o e
    rw [q] at h; cases h
theorem Ext.trans {w w1 w2 : Wd} {H H1 H2 : Hp} (a : Ext w H w1 H1) (b : Ext w1 H1 w2 H2) : Ext w H w2 H2 := by
  have kp : ∀ x o, H x = some o → (∀ i, i < w.n → w.k i ≠ x) → ∀ i, i < w1.n → w1.k i ≠ x := fun x o h hk i hi => by
    by_cases q : i < w.n
    · rw [a.k i q]; exact hk i q
    · intro e
      have z := a.newK i (Nat.le_of_not_lt q) hi
      rw [e, h] at z; cases z
  refine ⟨Nat.le_trans a.n b.n, fun i hi => (b.k i (Nat.lt_of_lt_of_le hi a.n)).trans (a.k i hi), a.F.trans b.F, fun x o h hk => b.keep x o (a.keep x o h hk) (kp x o h hk), fun x o h => ?_, fun x o h => ?_, fun i h1 h2 => ?_, fun x o u h => b.frz x o u (a.frz x o u h)⟩
  · obtain ⟨o1, q1⟩ := a.there x o h
    exact b.there x o1 q1
  · rcases b.newF x o h with q | q
    · exact a.newF x o q
    · exact .inr (a.back q)
  · by_cases q : i < w1.n
    · rw [b.k i q]; exact a.newK i h1 q
    · exact a.back (b.newK i (Nat.le_of_not_lt q) h2)
section
variable {K : PySem.W.Frag} {w w' : Wd}
/-- what the relation leans on -/
structure Le (w w' : Wd) : Prop where
  n : w.n ≤ w'.n
  k : ∀ i, i < w.n → w'.k i = w.k i
  F : Same w.F w'.F
theorem Ext.le {H H' : Hp} (e : Ext w H w' H') : Le w w' := ⟨e.n, e.k, e.F⟩
theorem SqT.mono {F F' : Hp} {a : Addr} {xs : List V} (e : Same F F') (h : SqT K F a xs) : SqT K F' a xs := by
  rcases h with (h | ⟨o, h⟩) | h
  · exact .inl (.inl (e _ _ h))
  · exact .inl (.inr ⟨o, e _ _ h⟩)
  · exact .inr h
theorem Rd.mono {F F' : Hp} {a : Addr} {u : HO} (e : Same F F') (h : Rd F a u) : Rd F' a u := by
  rcases h with h | ⟨o, h⟩
  · exact .inl (e _ _ h)
  · exact .inr ⟨o, e _ _ h⟩
theorem TD.mono {K : PySem.W.Frag} {F F' : Hp} {a : Addr} (e : Same F F') (h : TD K F a) : TD K F' a := h.imp (fun ⟨o, u, h1, h2⟩ => ⟨o, u, e _ _ h1, h2⟩) id
mutual
theorem R.mono (e : Le w w') : ∀ {v : V} {d : D}, R K w v d → R K w' v d
  | _, _, .non => .non
  | _, _, .bl b => .bl b
  | _, _, .int i => .int i
  | _, _, .str x => .str x
  | _, _, .tup h d t => .tup (SqT.mono e.F h) (TD.mono e.F d) (RA.mono e t)
  | _, _, .lst h t => .lst (e.F _ _ h) (RA.mono e t)
  | _, _, .dic h t => .dic (e.F _ _ h) (RK.mono e t)
  | _, _, .scr h => .scr (e.F.seq h)
  | _, _, .ref (i := i) h => by
    rw [← e.k i h]
    exact .ref (Nat.lt_of_lt_of_le h e.n)
theorem RA.mono (e : Le w w') : ∀ {vs : List V} {ds : List D}, RA K w vs ds → RA K w' vs ds
  | _, _, .nil => .nil
  | _, _, .cons r t => .cons (R.mono e r) (RA.mono e t)
theorem RK.mono (e : Le w w') : ∀ {vs : List (Key × V)} {ds : List (Key × D)}, RK K w vs ds → RK K w' vs ds
  | _, _, .nil => .nil
  | _, _, .cons r t => .cons (R.mono e r) (RK.mono e t)
end
end
inductive RF (K : PySem.W.Frag) (w : Wd) : List (Str × V) → List (Str × D) → Prop
  | nil : RF K w [] []
  | cons {k : Str} {v : V} {d : D} {vs : List (Str × V)} {ds : List (Str × D)} : R K w v d → RF K w vs ds → RF K w ((k, v) :: vs) ((k, d) :: ds)
theorem RF.mono {K : PySem.W.Frag} {w w' : Wd} (e : Le w w') : ∀ {vs : List (Str × V)} {ds : List (Str × D)}, RF K w vs ds → RF K w' vs ds
  | _, _, .nil => .nil
  | _, _, .cons r t => .cons (r.mono e) (RF.mono e t)
def CellOk (K : PySem.W.Frag) (cl : Str → Addr) (w : Wd) (H : Hp) (a : Addr) : Cell → Prop
  | .lst l => ∃ vs, H a = some (.lst vs) ∧ RA K w vs l
  | .dic l => ∃ vs, H a = some (.dK vs) ∧ RK K w vs l
  | .ins c l => ∃ dx vs, H a = some (.ins (cl c) dx vs) ∧ RF K w vs l
  | .dicL l => ∃ o vs, H a = some (.frz o (.dK vs)) ∧ RK K w vs l
theorem CellOk.there {K : PySem.W.Frag} {cl : Str → Addr} {w : Wd} {H : Hp} {a : Addr} {c : Cell} (h : CellOk K cl w H a c) : ∃ o, H a = some o := by
  cases c with
  | lst l => obtain ⟨vs, h, _⟩ := h; exact ⟨_, h⟩
  | dic l => obtain ⟨vs, h, _⟩ := h; exact ⟨_, h⟩
  | ins c l => obtain ⟨dx, vs, h, _⟩ := h; exact ⟨_, h⟩
  | dicL l => obtain ⟨o, vs, h, _⟩ := h; exact ⟨_, h⟩
theorem CellOk.mono {K : PySem.W.Frag} {cl : Str → Addr} {w w' : Wd} {H H' : Hp} {a : Addr} {c : Cell} (e : Le w w') (hk : ∀ o, H a = some o → H' a = some o) (h : CellOk K cl w H a c) : CellOk K cl w' H' a c := by
  cases c with
  | lst l => obtain ⟨vs, h, r⟩ := h; exact ⟨vs, hk _ h, r.mono e⟩
  | dic l => obtain ⟨vs, h, r⟩ := h; exact ⟨vs, hk _ h, r.mono e⟩
  | ins c l => obtain ⟨dx, vs, h, r⟩ := h; exact ⟨dx, vs, hk _ h, r.mono e⟩
  | dicL l => obtain ⟨o, vs, h, r⟩ := h; exact ⟨o, vs, hk _ h, r.mono e⟩
structure Ok (K : PySem.W.Frag) (cl : Str → Addr) (w : Wd) (S : Store) (H : Hp) : Prop where
  len : w.n = S.length
  sub : Same w.F H
  cell : ∀ i c, S[i]? = some c → w.F (w.k i) = none ∧ CellOk K cl w H (w.k i) c
  inj : ∀ i j, i < w.n → j < w.n → w.k i = w.k j → i = j
/-- an own object of the frame: not frozen, no cell -/
structure Hid (w : Wd) (a : Addr) : Prop where
  nF : w.F a = none
  nK : ∀ i, i < w.n → w.k i ≠ a
def SlotOk (K : PySem.W.Frag) (w : Wd) (H : Hp) : Slot → V → Prop
  | .dat d, v => R K w v d
  | .own l, v => ∃ a vs, v = .ref a ∧ H a = some (.lst vs) ∧ RA K w vs l ∧ Hid w a
  | .ownd l, v => ∃ a vs, v = .ref a ∧ H a = some (.dK vs) ∧ RK K w vs l ∧ Hid w a
  | .adr a, v => v = .ref a
def Slot.isOwn : Slot → Bool
  | .dat _ => false
  | .adr _ => false
  | _ => true
structure EnvR (K : PySem.W.Frag) (w : Wd) (H : Hp) (σ : L2.St) (ρ : Env) : Prop where
  len : σ.length = ρ.length
  slot : ∀ (i : Nat) (s : Slot), ρ[i]? = some (some s) → ∃ v, σ[i]? = some (some v) ∧ SlotOk K w H s v
  sep : ∀ (i j : Nat) (s t : Slot) (v : V), i ≠ j → ρ[i]? = some (some s) → ρ[j]? = some (some t) → s.isOwn = true → t.isOwn = true → σ[i]? = some (some v) → σ[j]? = some (some v) → False
section
variable {K : PySem.W.Frag} {w w' : Wd} {H H' : Hp} {σ : L2.St} {ρ : Env}
theorem Hid.mono {a : Addr} {o : HO} (e : Ext w H w' H') (ha : H a = some o) (h : Hid w a) : Hid w' a := by
  refine ⟨?_, fun i hi => ?_⟩
  · cases q : w'.F a with
    | none => rfl
    | some u =>
      rcases e.newF a u q with z | z
      · rw [h.nF] at z; cases z
      · rw [ha] at z; cases z
  · by_cases q : i < w.n
    · rw [e.k i q]; exact h.nK i q
    · intro z
      have y := e.newK i (Nat.le_of_not_lt q) hi
      rw [z, ha] at y; cases y
theorem SlotOk.mono {s : Slot} {v : V} (e : Ext w H w' H') (h : SlotOk K w H s v) : SlotOk K w' H' s v := by
  cases s with
  | adr a => exact h
  | dat d => exact R.mono e.le h
  | own l =>
    obtain ⟨a, vs, rfl, ha, r, hi⟩ := h
    exact ⟨a, vs, rfl, e.keep a _ ha hi.nK, r.mono e.le, hi.mono e ha⟩
  | ownd l =>
    obtain ⟨a, vs, rfl, ha, r, hi⟩ := h
    exact ⟨a, vs, rfl, e.keep a _ ha hi.nK, r.mono e.le, hi.mono e ha⟩
theorem EnvR.mono (e : Ext w H w' H') (h : EnvR K w H σ ρ) : EnvR K w' H' σ ρ :=
  ⟨h.len, fun i s hs => let ⟨v, h1, h2⟩ := h.slot i s hs; ⟨v, h1, h2.mono e⟩, h.sep⟩
end
section
variable (K : PySem.W.Frag) (cl : Str → Addr)
def Post {α β : Type} (W : WX) (σ : L2.St) (Rl : Wd → β → α → Prop) (w : Wd) (H : Hp) (r : Res α) (Q : β → Hp → Prop) : Prop := match r with
  | .ok d S' => ∀ w' v H', Ext w H w' H' → Ok K cl w' S' H' → Rl w' v d → Q v H'
  | .err c S' => ∀ w' H', Ext w H w' H' → Ok K cl w' S' H' → W (.ref (cl c)) none σ H'
  | .bad => False
def tG {α β : Type} (W : WX) (Rl : Wd → β → α → Prop) (f : Env → Store → Res α) : L2.St → Hp → (β → Hp → Prop) → Prop := fun σ H Q =>
  ∃ w ρ S, Ok K cl w S H ∧ EnvR K w H σ ρ ∧ Post K cl W σ Rl w H (f ρ S) Q
abbrev RB : Wd → Bool → Bool → Prop := fun _ b c => b = c
end
abbrev DE (X : Cx) (cl : Str → Addr) (W : WX) (e : Expr) (f : Env → Store → Res D) : Prop := PE X e (tG X.K cl W (R X.K) f)
abbrev DT (X : Cx) (cl : Str → Addr) (W : WX) (e : Expr) (f : Env → Store → Res Bool) : Prop := PT X e (tG X.K cl W RB f)
abbrev DW (X : Cx) (cl : Str → Addr) (W : WX) (e : Expr) (f : Env → Store → Res Bool) : Prop := PW X e (tG X.K cl W RB f)
abbrev DA (X : Cx) (cl : Str → Addr) (W : WX) (es : List Expr) (f : Env → Store → Res (List D)) : Prop := PA X es (tG X.K cl W (RA X.K) f)
section
variable {K : PySem.W.Frag} {cl : Str → Addr} {W : WX} {σ : L2.St} {w w' : Wd} {H H' : Hp}
theorem Post.mono {α β : Type} {Rl : Wd → β → α → Prop} {r : Res α} {Q : β → Hp → Prop} (e : Ext w H w' H') (h : Post K cl W σ Rl w H r Q) : Post K cl W σ Rl w' H' r Q := by
  cases r with
  | ok d S => exact fun w2 v H2 e2 o2 r2 => h w2 v H2 (e.trans e2) o2 r2
  | err c S => exact fun w2 H2 e2 o2 => h w2 H2 (e.trans e2) o2
  | bad => exact h
theorem Post.bind {α β α' β' : Type} {Rl : Wd → β → α → Prop} {Rl' : Wd → β' → α' → Prop} {r : Res α} {k : α → Store → Res α'} {Q : β' → Hp → Prop} {Q1 : β → Hp → Prop} (h : Post K cl W σ Rl' w H (r.bind k) Q)
    (hk : ∀ d S1 w1 v H1, Ext w H w1 H1 → Ok K cl w1 S1 H1 → Rl w1 v d → Post K cl W σ Rl' w1 H1 (k d S1) Q → Q1 v H1) : Post K cl W σ Rl w H r Q1 := by
  cases r with
  | ok d S => exact fun w1 v H1 e1 o1 r1 => hk d S w1 v H1 e1 o1 r1 (Post.mono e1 h)
  | err c S => exact h
  | bad => exact h
/-- the start of a reading -/
theorem tG.at {α β : Type} {Rl : Wd → β → α → Prop} {f : Env → Store → Res α} {ρ : Env} {S : Store} {Q : β → Hp → Prop} (o : Ok K cl w S H) (n : EnvR K w H σ ρ) (p : Post K cl W σ Rl w H (f ρ S) Q) : tG K cl W Rl f σ H Q := ⟨w, ρ, S, o, n, p⟩
theorem Post.here {α β : Type} {Rl : Wd → β → α → Prop} {d : α} {S : Store} {Q : β → Hp → Prop} {v : β} (h : Post K cl W σ Rl w H (.ok d S) Q) (o : Ok K cl w S H) (r : Rl w v d) : Q v H := h w v H (Ext.refl _ _) o r
end
theorem PE.imp {X : Cx} {e : Expr} {t t' : TE} (h : PE X e t) (i : ∀ σ H Q, t' σ H Q → t σ H Q) : PE X e t' := ⟨fun pins s σ H Q I q => h.run pins s σ H Q I (i σ H Q q)⟩
theorem PT.imp {X : Cx} {e : Expr} {t t' : TT} (h : PT X e t) (i : ∀ σ H Q, t' σ H Q → t σ H Q) : PT X e t' := ⟨fun pins s σ H Q I q => h.run pins s σ H Q I (i σ H Q q)⟩
theorem PW.imp {X : Cx} {e : Expr} {t t' : TT} (h : PW X e t) (i : ∀ σ H Q, t' σ H Q → t σ H Q) : PW X e t' := ⟨fun wh pins s σ H Q I q => h.run wh pins s σ H Q I (i σ H Q q)⟩
theorem PA.imp {X : Cx} {e : List Expr} {t t' : TA} (h : PA X e t) (i : ∀ σ H Q, t' σ H Q → t σ H Q) : PA X e t' := ⟨fun p pins s σ H Q I q => h.run p pins s σ H Q I (i σ H Q q)⟩
theorem PS.imp {X : Cx} {e : Stmt} {t t' : TS} (h : PS X e t) (i : ∀ D σ H, t' D σ H → t D σ H) : PS X e t' := ⟨fun pins s σ H D I q => h.run pins s σ H D I (i D σ H q)⟩
theorem PSs.imp {X : Cx} {e : List Stmt} {t t' : TS} (h : PSs X e t) (i : ∀ D σ H, t' D σ H → t D σ H) : PSs X e t' := ⟨fun pins s σ H D I q => h.run pins s σ H D I (i D σ H q)⟩
def fC (d : D) : Env → Store → Res D := fun _ S => .ok d S
def fV (i : Nat) : Env → Store → Res D := fun ρ S => match ρ[i]? with
  | some (some (.dat d)) => .ok d S
  | _ => .bad
section
variable {X : Cx} {cl : Str → Addr} {W : WX}
theorem de_v (i : Nat) {x : Str} {pos : Pos} (h : PE X (.Name x pos) (tVar i)) : DE X cl W (.Name x pos) (fV i) := by
  refine PE.imp h fun σ H Q ⟨w, ρ, S, o, n, p⟩ => ?_
  unfold fV at p
  split at p
  · rename_i d e
    obtain ⟨v, h1, h2⟩ := n.slot i _ e
    exact ⟨v, h1, p.here o h2⟩
  · exact p.elim
theorem de_c {e : Expr} {v : V} {d : D} (h : PE X e (tC v)) (r : ∀ w, R X.K w v d) : DE X cl W e (fC d) :=
  PE.imp h fun σ H Q ⟨w, ρ, S, o, n, p⟩ => p.here o (r w)
theorem de_int {i j pos} : DE X cl W (.Constant (.int i) j pos) (fC (.int i)) := de_c pe_int fun _ => .int i
theorem de_bl {b j pos} : DE X cl W (.Constant (.bool b) j pos) (fC (.bl b)) := de_c pe_bl fun _ => .bl b
theorem de_non {j pos} : DE X cl W (.Constant .none j pos) (fC .non) := de_c pe_non fun _ => .non
theorem de_str {x j pos} : DE X cl W (.Constant (.str x) j pos) (fC (.str x)) := de_c pe_str fun _ => .str x
def fNil : Env → Store → Res (List D) := fun _ S => .ok [] S
def fCons (f : Env → Store → Res D) (g : Env → Store → Res (List D)) : Env → Store → Res (List D) := fun ρ S =>
  (f ρ S).bind fun d S1 => (g ρ S1).bind fun ds S2 => .ok (d :: ds) S2
theorem da_nil : DA X cl W [] fNil := PA.imp pa_nil fun σ H Q ⟨w, ρ, S, o, n, p⟩ => p.here o .nil
theorem da_cons {e : Expr} {es : List Expr} {f : Env → Store → Res D} {g : Env → Store → Res (List D)} (h : DE X cl W e f) (t : DA X cl W es g)
    (hs : starEach (e :: es) X.env = (false, eval e X.env) :: starEach es X.env := by rfl) : DA X cl W (e :: es) (fCons f g) := by
  refine PA.imp (pa_cons h t hs) fun σ H Q ⟨w, ρ, S, o, n, p⟩ => ?_
  refine tG.at o n (Post.bind p fun d S1 w1 v H1 e1 o1 r1 p1 => tG.at o1 (n.mono e1) (Post.bind p1 fun ds S2 w2 vs H2 e2 o2 r2 p2 => ?_))
  exact p2.here o2 (.cons (r1.mono e2.le) r2)
end
end BW
namespace BW
open PySem L2
def LIM : Nat := 100000
theorem lim_le {n : Nat} (h : n ≤ LIM) : n ≤ sizeLine := Nat.le_trans h (by decide)
theorem lim_lt {n : Nat} (h : n < LIM) : n < sizeLine := Nat.lt_of_lt_of_le h (by decide)
section
variable {K : PySem.W.Frag} {cl : Str → Addr} {W : WX} {σ : L2.St} {w : Wd} {S : Store} {H : Hp}
/-- a frozen new object -/
def Wd.lay (w : Wd) (p : Addr) (o : HO) : Wd := { w with F := upd w.F p o }
theorem Ok.laid (k : Ok K cl w S H) {p : Addr} {o : HO} (hp : H p = none) : Ext w H (w.lay p o) (upd H p o) ∧ Ok K cl (w.lay p o) S (upd H p o) := by
  have nF : w.F p = none := by
    cases e : w.F p with
    | none => rfl
    | some u => rw [k.sub p u e] at hp; cases hp
  have ext : Ext w H (w.lay p o) (upd H p o) := by
    refine ⟨Nat.le_refl _, fun _ _ => rfl, fun b u h => ?_, fun b u h _ => ?_, fun b u h => ?_, fun b u h => ?_, fun i h1 h2 => absurd (Nat.lt_of_lt_of_le h2 h1) (Nat.lt_irrefl _), fun b q u h => by rw [upd_ne (ne_of_none h hp)]; exact h⟩
    · show upd w.F p o b = some u
      rw [upd_ne (ne_of_none h nF)]; exact h
    · rw [upd_ne (ne_of_none h hp)]; exact h
    · exact ⟨u, by rw [upd_ne (ne_of_none h hp)]; exact h⟩
    · by_cases e : b = p
      · subst e; exact .inr hp
      · have h : upd w.F p o b = some u := h
        rw [upd_ne e] at h; exact .inl h
  refine ⟨ext, k.len, fun b u h => ?_, fun i c h => ?_, k.inj⟩
  · have h : upd w.F p o b = some u := h
    by_cases e : b = p
    · subst e; rw [upd_same] at h ⊢; exact h
    · rw [upd_ne e] at h ⊢; exact k.sub b u h
  · obtain ⟨h1, h2⟩ := k.cell i c h
    obtain ⟨u, hu⟩ := h2.there
    have ne : w.k i ≠ p := ne_of_none hu hp
    refine ⟨?_, CellOk.mono ext.le (fun v hv => ?_) h2⟩
    · show upd w.F p o (w.k i) = none
      rw [upd_ne ne]; exact h1
    · show upd H p o (w.k i) = some v
      rw [upd_ne ne]; exact hv
theorem Ok.layT (k : Ok K cl w S H) {p : Addr} {q : Obj} {vs : List V} {ds : List D} (hp : H p = none) (hq : q.dict = none) (r : RA K w vs ds) : Ext w H (w.lay p (.frz q (.tup vs))) (upd H p (.frz q (.tup vs))) ∧ Ok K cl (w.lay p (.frz q (.tup vs))) S (upd H p (.frz q (.tup vs))) ∧ R K (w.lay p (.frz q (.tup vs))) (.ref p) (.tup ds) :=
  let ⟨e, o⟩ := k.laid hp; ⟨e, o, .tup (.inl (.inr ⟨q, upd_same⟩)) (.inl ⟨q, _, upd_same, hq⟩) (r.mono e.le)⟩
/-- a tuple that may be used up (of a pair that a walk yields) -/
def Rw (K : PySem.W.Frag) (w : Wd) (v : V) (d : D) : Prop := R K w v d ∨ ∃ a vs l, v = .ref a ∧ d = .tup l ∧ SqT K w.F a vs ∧ RA K w vs l
def Rb (b : Bool) (K : PySem.W.Frag) (w : Wd) (v : V) (d : D) : Prop := if b = true then Rw K w v d else R K w v d
theorem Ok.layW (k : Ok K cl w S H) {p : Addr} {vs : List V} {ds : List D} (hp : H p = none) (r : RA K w vs ds) : Ext w H (w.lay p (.tup vs)) (upd H p (.tup vs)) ∧ Ok K cl (w.lay p (.tup vs)) S (upd H p (.tup vs)) ∧ Rb true K (w.lay p (.tup vs)) (.ref p) (.tup ds) :=
  let ⟨e, o⟩ := k.laid hp; ⟨e, o, .inr ⟨_, _, _, rfl, rfl, SqT.of upd_same, r.mono e.le⟩⟩
theorem Ok.layL (k : Ok K cl w S H) {p : Addr} {vs : List V} {ds : List D} (hp : H p = none) (r : RA K w vs ds) : Ext w H (w.lay p (.lst vs)) (upd H p (.lst vs)) ∧ Ok K cl (w.lay p (.lst vs)) S (upd H p (.lst vs)) ∧ R K (w.lay p (.lst vs)) (.ref p) (.lst ds) :=
  let ⟨e, o⟩ := k.laid hp; ⟨e, o, .lst upd_same (r.mono e.le)⟩
theorem Ok.layD (k : Ok K cl w S H) {p : Addr} {q : Obj} {vs : List (Key × V)} {ds : List (Key × D)} (hp : H p = none) (r : RK K w vs ds) : Ext w H (w.lay p (.frz q (.dK vs))) (upd H p (.frz q (.dK vs))) ∧ Ok K cl (w.lay p (.frz q (.dK vs))) S (upd H p (.frz q (.dK vs))) ∧ R K (w.lay p (.frz q (.dK vs))) (.ref p) (.dic ds) :=
  let ⟨e, o⟩ := k.laid hp; ⟨e, o, .dic upd_same (r.mono e.le)⟩
/-- reading frozen things in H -/
theorem Ok.sqT (k : Ok K cl w S H) {a : Addr} {vs : List V} (h : SqT K w.F a vs) : SqT K H a vs := SqT.mono k.sub h
theorem Ok.sqL (k : Ok K cl w S H) {a : Addr} {vs : List V} (h : w.F a = some (.lst vs)) : SqL K H a vs := SqL.of (k.sub _ _ h)
theorem Post.okT {α β : Type} {Rl : Wd → β → α → Prop} {d : α} {S' : Store} {Q : β → Hp → Prop} {v : β} {w' : Wd} {H' : Hp} (h : Post K cl W σ Rl w H (.ok d S') Q) (e : Ext w H w' H') (o : Ok K cl w' S' H') (r : Rl w' v d) : Q v H' := h w' v H' e o r
end
section
variable {X : Cx} {cl : Str → Addr} {W : WX}
def fTup (g : Env → Store → Res (List D)) : Env → Store → Res D := fun ρ S => (g ρ S).bind fun ds S1 => if ds.length ≤ LIM then .ok (.tup ds) S1 else .bad
def fLst (g : Env → Store → Res (List D)) : Env → Store → Res D := fun ρ S => (g ρ S).bind fun ds S1 => if ds.length ≤ LIM then .ok (.lst ds) S1 else .bad
theorem de_tup {es : List Expr} {x1} {pos : Pos} {g : Env → Store → Res (List D)} (h : DA X cl W es g) : DE X cl W (.Tuple es x1 pos) (fTup g) := by
  refine PE.imp (pe_tupS h) fun σ H Q ⟨w, ρ, S, o, n, p⟩ => tG.at o n (Post.bind p fun ds S1 w1 vs H1 e1 o1 r1 p1 => ?_)
  split at p1
  · rename_i hl
    refine ⟨lim_le (by rw [r1.length]; exact hl), fun q qo hq hd => ?_⟩
    obtain ⟨e, o', r⟩ := o1.layT hq hd r1
    exact p1.okT e o' r
  · exact p1.elim
theorem de_lst {es : List Expr} {pos : Pos} {g : Env → Store → Res (List D)} (h : DA X cl W es g) : DE X cl W (.List es pos) (fLst g) := by
  refine PE.imp (pe_lst h) fun σ H Q ⟨w, ρ, S, o, n, p⟩ => tG.at o n (Post.bind p fun ds S1 w1 vs H1 e1 o1 r1 p1 => ?_)
  split at p1
  · rename_i hl
    refine ⟨lim_le (by rw [r1.length]; exact hl), fun q hq => ?_⟩
    obtain ⟨e, o', r⟩ := o1.layL hq r1
    exact p1.okT e o' r
  · exact p1.elim
def r2 (K : PySem.W.Frag) (cl : Str → Addr) (g : D → D → Store → Option D) : R2 := fun x y H Q => ∃ w S d e z, Ok K cl w S H ∧ R K w x d ∧ R K w y e ∧ g d e S = some z ∧
  ∀ w' v H', Ext w H w' H' → Ok K cl w' S H' → R K w' v z → Q v H'
def f2 (g : D → D → Store → Option D) (fa fb : Env → Store → Res D) : Env → Store → Res D := fun ρ S => (fa ρ S).bind fun a S1 => (fb ρ S1).bind fun b S2 => Res.of S2 (g a b S2)
theorem OpR.imp {f : Value → Value → Sem Value} {r r' : R2} (h : OpR X f r) (i : ∀ x y H Q, r' x y H Q → r x y H Q) : OpR X f r' := by
  intro pins s σ H x y v u Q I rx ry q
  exact h pins s σ H x y v u Q I rx ry (i x y H Q q)
theorem of2 {f : Value → Value → Sem Value} {r : R2} {g : D → D → Store → Option D} (h : OpR X f r)
    (i : ∀ x y H Q w S d e z, Ok X.K cl w S H → R X.K w x d → R X.K w y e → g d e S = some z → (∀ w' v H', Ext w H w' H' → Ok X.K cl w' S H' → R X.K w' v z → Q v H') → r x y H Q) : OpR X f (r2 X.K cl g) :=
  OpR.imp h fun x y H Q ⟨w, S, d, e, z, k, r1, r2, hg, q⟩ => i x y H Q w S d e z k r1 r2 hg q
theorem t2_of {fa fb : Env → Store → Res D} {g : D → D → Store → Option D} {σ : L2.St} {H : Hp} {Q : VK} (h : tG X.K cl W (R X.K) (f2 g fa fb) σ H Q) :
    tOp (r2 X.K cl g) (tG X.K cl W (R X.K) fa) (tG X.K cl W (R X.K) fb) σ H Q := by
  obtain ⟨w, ρ, S, o, n, p⟩ := h
  refine tG.at o n (Post.bind p fun a S1 w1 x H1 e1 o1 r1 p1 => tG.at o1 (n.mono e1) (Post.bind p1 fun b S2 w2 y H2 e2 o2 r2 p2 => ?_))
  cases hg : g a b S2 with
  | none => rw [hg] at p2; exact p2.elim
  | some z =>
    rw [hg] at p2
    exact ⟨w2, S2, a, b, z, o2, r1.mono e2.le, r2, hg, fun w' v H' e' o' r' => p2.okT e' o' r'⟩
theorem de_bin {op : Operator} {a b : Expr} {pos : Pos} {g : D → D → Store → Option D} {fa fb : Env → Store → Res D} (ho : OpR X (binaryOp op) (r2 X.K cl g)) (ha : DE X cl W a fa) (hb : DE X cl W b fb) : DE X cl W (.BinOp a op b pos) (f2 g fa fb) :=
  PE.imp (pe_op ho ha hb) fun _ _ _ h => t2_of h
theorem de_cmp {op : CmpOp} {a b : Expr} {pos : Pos} {g : D → D → Store → Option D} {fa fb : Env → Store → Res D} (ho : OpR X (compareOp op) (r2 X.K cl g)) (ha : DE X cl W a fa) (hb : DE X cl W b fb) (hm : behindInMarks op b = false) : DE X cl W (.Compare a [op] [b] pos) (f2 g fa fb) :=
  PE.imp (pe_cmpR ho ha hb hm) fun _ _ _ h => t2_of h
/-- a value's place in the heap -/
theorem R.int_inv {K : PySem.W.Frag} {w : Wd} {v : V} {i : Int} (h : R K w v (.int i)) : v = .int i := by cases h; rfl
theorem R.bl_inv {K : PySem.W.Frag} {w : Wd} {v : V} {i : Bool} (h : R K w v (.bl i)) : v = .bl i := by cases h; rfl
theorem R.tup_inv {K : PySem.W.Frag} {w : Wd} {v : V} {l : List D} (h : R K w v (.tup l)) : ∃ a vs, v = .ref a ∧ SqT K w.F a vs ∧ RA K w vs l := by cases h; exact ⟨_, _, rfl, by assumption, by assumption⟩
theorem R.tup_td {K : PySem.W.Frag} {w : Wd} {a : Addr} {l : List D} (h : R K w (.ref a) (.tup l)) : TD K w.F a := by cases h; assumption
theorem R.lst_inv {K : PySem.W.Frag} {w : Wd} {v : V} {l : List D} (h : R K w v (.lst l)) : ∃ a vs, v = .ref a ∧ w.F a = some (.lst vs) ∧ RA K w vs l := by cases h; exact ⟨_, _, rfl, by assumption, by assumption⟩
theorem R.dic_inv {K : PySem.W.Frag} {w : Wd} {v : V} {l : List (Key × D)} (h : R K w v (.dic l)) : ∃ a vs, v = .ref a ∧ Rd w.F a (.dK vs) ∧ RK K w vs l := by cases h with | dic h1 h2 => exact ⟨_, _, rfl, .inr ⟨_, h1⟩, h2⟩
theorem R.dic_frz {K : PySem.W.Frag} {w : Wd} {v : V} {l : List (Key × D)} (h : R K w v (.dic l)) : ∃ a q vs, v = .ref a ∧ w.F a = some (.frz q (.dK vs)) ∧ RK K w vs l := by cases h with | dic h1 h2 => exact ⟨_, _, _, rfl, h1, h2⟩
theorem R.scr_inv {K : PySem.W.Frag} {w : Wd} {v : V} {l : List Int} (h : R K w v (.scr l)) : ∃ a, v = .ref a ∧ SqL K w.F a (l.map V.int) := by cases h; exact ⟨_, rfl, by assumption⟩
theorem R.ref_inv {K : PySem.W.Frag} {w : Wd} {v : V} {i : Nat} (h : R K w v (.ref i)) : v = .ref (w.k i) ∧ i < w.n := by cases h; exact ⟨rfl, by assumption⟩
def gAdd : D → D → Store → Option D
  | .int i, .int j, _ => some (.int (i + j))
  | .str a, .str b, _ => if a.length + b.length ≤ LIM then some (.str (a ++ b)) else none
  | .tup a, .tup b, _ => if a.length + b.length ≤ LIM then some (.tup (a ++ b)) else none
  | .lst a, .lst b, _ => if a.length + b.length ≤ LIM then some (.lst (a ++ b)) else none
  | _, _, _ => none
theorem o_add : OpR X (binaryOp .Add) (r2 X.K cl gAdd) := by
  refine of2 (op_add.or (op_add_str.or (op_catS.or op_cat))) fun x y H Q w S d e z k r1 r2 hg q => ?_
  cases d <;> cases e <;> simp only [gAdd] at hg <;> try cases hg
  · cases r1; cases r2
    exact .inl ⟨_, _, rfl, rfl, q w _ H (Ext.refl _ _) k (.int _)⟩
  · cases r1; cases r2
    split at hg
    · rename_i hl
      cases hg
      exact .inr (.inl ⟨_, _, rfl, rfl, lim_le hl, q w _ H (Ext.refl _ _) k (.str _)⟩)
    · cases hg
  · obtain ⟨a, vs, rfl, ha, ra⟩ := r1.tup_inv
    obtain ⟨b, us, rfl, hb, rb⟩ := r2.tup_inv
    split at hg
    · rename_i hl
      cases hg
      refine .inr (.inr (.inl ⟨a, b, vs, us, rfl, rfl, k.sqT ha, k.sqT hb, lim_le (by rw [ra.length, rb.length]; exact hl), fun e => ?_, fun _ e => ?_, fun _ _ p po hp hd => ?_⟩))
      · subst e; cases ra
        exact q w _ H (Ext.refl _ _) k r2
      · subst e; cases rb
        rw [List.append_nil] at q
        exact q w _ H (Ext.refl _ _) k r1
      · obtain ⟨e, o, r⟩ := k.layT hp hd (ra.append rb)
        exact q _ _ _ e o r
    · cases hg
  · obtain ⟨a, vs, rfl, ha, ra⟩ := r1.lst_inv
    obtain ⟨b, us, rfl, hb, rb⟩ := r2.lst_inv
    split at hg
    · rename_i hl
      cases hg
      refine .inr (.inr (.inr ⟨a, b, vs, us, rfl, rfl, k.sub _ _ ha, k.sub _ _ hb, lim_le (by rw [ra.length, rb.length]; exact hl), fun p hp => ?_⟩))
      obtain ⟨e, o, r⟩ := k.layL hp (ra.append rb)
      exact q _ _ _ e o r
    · cases hg
def gSub : D → D → Store → Option D
  | .int i, .int j, _ => some (.int (i - j))
  | _, _, _ => none
theorem o_sub : OpR X (binaryOp .Sub) (r2 X.K cl gSub) := by
  refine of2 op_sub fun x y H Q w S d e z k r1 r2 hg q => ?_
  cases d <;> cases e <;> simp only [gSub] at hg <;> try cases hg
  cases r1; cases r2
  exact ⟨_, _, rfl, rfl, q w _ H (Ext.refl _ _) k (.int _)⟩
def gFdiv : D → D → Store → Option D
  | .int i, .int j, _ => if 0 < j ∧ j < 1073741824 then some (.int (i / j)) else none
  | _, _, _ => none
theorem o_fdiv : OpR X (binaryOp .FloorDiv) (r2 X.K cl gFdiv) := by
  refine of2 op_fdiv fun x y H Q w S d e z k r1 r2 hg q => ?_
  cases d <;> cases e <;> simp only [gFdiv] at hg <;> try cases hg
  cases r1; cases r2
  split at hg
  · rename_i hc
    cases hg
    exact ⟨_, _, rfl, rfl, hc, q w _ H (Ext.refl _ _) k (.int _)⟩
  · cases hg
def gMod : D → D → Store → Option D
  | .int i, .int j, _ => if 0 < j then some (.int (i % j)) else none
  | _, _, _ => none
theorem o_mod : OpR X (binaryOp .Mod) (r2 X.K cl gMod) := by
  refine of2 op_mod fun x y H Q w S d e z k r1 r2 hg q => ?_
  cases d <;> cases e <;> simp only [gMod] at hg <;> try cases hg
  cases r1; cases r2
  split at hg
  · rename_i hc
    cases hg
    exact ⟨_, _, rfl, rfl, hc, q w _ H (Ext.refl _ _) k (.int _)⟩
  · cases hg
def gMul : D → D → Store → Option D
  | .int i, .int j, _ => if (-(2 ^ 64) < i ∧ i < 2 ^ 64) ∨ (-(2 ^ 64) < j ∧ j < 2 ^ 64) then some (.int (i * j)) else none
  | .lst l, .int j, _ => if 0 ≤ j ∧ j ≤ 1000 ∧ l.length ≤ 100 then some (.lst (List.replicate j.toNat l).flatten) else none
  | _, _, _ => none
theorem o_mul : OpR X (binaryOp .Mult) (r2 X.K cl gMul) := by
  refine of2 (op_mul.or op_rep) fun x y H Q w S d e z k r1 r2 hg q => ?_
  cases d <;> cases e <;> simp only [gMul] at hg <;> try cases hg
  · cases r1; cases r2
    split at hg
    · rename_i hc
      cases hg
      exact .inl ⟨_, _, rfl, rfl, hc, q w _ H (Ext.refl _ _) k (.int _)⟩
    · cases hg
  · obtain ⟨a, vs, rfl, ha, ra⟩ := r1.lst_inv
    cases r2
    split at hg
    · rename_i j hc
      obtain ⟨h1, h2, h3⟩ := hc
      cases hg
      refine .inr ⟨a, _, vs, rfl, rfl, k.sub _ _ ha, by omega, by omega, ?_, fun p hp => ?_⟩
      · rw [ra.length]
        refine lim_le ?_
        exact Nat.le_trans (Nat.mul_le_mul h3 (show j.toNat ≤ 1000 by omega)) (by decide)
      · obtain ⟨e, o, r⟩ := k.layL hp (ra.flat j.toNat)
        exact q _ _ _ e o r
    · cases hg
end
end BW
namespace BW
open PySem L2
mutual
def toPy : D → PyData
  | .non => .none
  | .bl b => .bool b
  | .int i => .int i
  | .str x => .str x
  | .tup l => .tuple (toPys l)
  | .lst l => .list (toPys l)
  | .dic _ => .none
  | .scr ns => .list (ns.map .int)
  | .ref _ => .none
def toPys : List D → List PyData
  | [] => []
  | d :: l => toPy d :: toPys l
end
/-- no names, no dicts, at most n deep -/
def okD : Nat → D → Bool
  | _, .non => true
  | _, .bl _ => true
  | _, .int _ => true
  | _, .str x => PyData.strOk x
  | n + 1, .tup l => l.all (okD n)
  | n + 1, .lst l => l.all (okD n)
  | n + 1, .scr _ => true
  | _, _ => false
/-- == -/
def deq (a b : D) : Bool := PyData.eqv (toPy a) (toPy b)
def deqs (a b : List D) : Bool := PyData.eqvAll (toPys a) (toPys b)
theorem toPys_map : ∀ l : List D, toPys l = l.map toPy
  | [] => rfl
  | d :: l => by rw [toPys, toPys_map l]; rfl
theorem canLayAll_ints : ∀ ns : List Int, PyData.canLayAll0 (ns.map .int) = true
  | [] => rfl
  | n :: ns => by simp [PyData.canLayAll0, PyData.canLay0, canLayAll_ints ns]
theorem depthAll_ints : ∀ ns : List Int, PyData.depthAll (ns.map .int) ≤ 1
  | [] => by simp [PyData.depthAll]
  | n :: ns => by
    have := depthAll_ints ns
    simp only [List.map_cons, PyData.depthAll, PyData.depth]
    omega
theorem okD_lay : ∀ (n : Nat) (d : D), okD n d = true → (toPy d).canLay0 = true ∧ (toPy d).depth ≤ n + 1 := by
  have all : ∀ (n : Nat), (∀ d, okD n d = true → (toPy d).canLay0 = true ∧ (toPy d).depth ≤ n + 1) → ∀ l : List D, l.all (okD n) = true → PyData.canLayAll0 (toPys l) = true ∧ PyData.depthAll (toPys l) ≤ n + 1 := by
    intro n ih l
    induction l with
    | nil => intro _; simp [toPys, PyData.canLayAll0, PyData.depthAll]
    | cons d l il =>
      intro h
      simp only [List.all_cons, Bool.and_eq_true] at h
      obtain ⟨h1, h2⟩ := ih d h.1
      obtain ⟨h3, h4⟩ := il h.2
      simp only [toPys, PyData.canLayAll0, PyData.depthAll, h1, h3, Bool.and_self, true_and]
      omega
  intro n
  induction n with
  | zero =>
    intro d h
    cases d <;> simp_all [okD, toPy, PyData.canLay0, PyData.depth]
  | succ n ih =>
    intro d h
    cases d with
    | tup l =>
      obtain ⟨h1, h2⟩ := all n ih l (by simpa [okD] using h)
      simp only [toPy, PyData.canLay0, PyData.depth, h1, true_and]
      omega
    | lst l =>
      obtain ⟨h1, h2⟩ := all n ih l (by simpa [okD] using h)
      simp only [toPy, PyData.canLay0, PyData.depth, h1, true_and]
      omega
    | scr ns =>
      have := depthAll_ints ns
      simp only [toPy, PyData.canLay0, PyData.depth, canLayAll_ints, true_and]
      omega
    | _ => simp_all [okD, toPy, PyData.canLay0, PyData.depth]
theorem okD_shaped {n : Nat} {d : D} (h : okD n d = true) (hn : n ≤ 60) : SeqAt.shaped (toPy d) = true := by
  obtain ⟨h1, h2⟩ := okD_lay n d h
  unfold SeqAt.shaped
  rw [h1, Bool.true_and]
  exact decide_eq_true (by omega)
theorem dpAll_ints {K : PySem.W.Frag} {H : Hp} : ∀ ns : List Int, DpAll K H (ns.map V.int) (ns.map .int)
  | [] => .nil
  | n :: ns => .cons (.int n) (dpAll_ints ns)
section
variable {K : PySem.W.Frag} {cl : Str → Addr} {w : Wd} {S : Store} {H : Hp}
theorem Ok.dp (k : Ok K cl w S H) : ∀ (n : Nat) {v : V} {d : D}, R K w v d → okD n d = true → Dp K H v (toPy d) := by
  have all : ∀ n, (∀ {v : V} {d : D}, R K w v d → okD n d = true → Dp K H v (toPy d)) → ∀ {l : List D} {vs : List V}, RA K w vs l → l.all (okD n) = true → DpAll K H vs (toPys l) := by
    intro n ih l
    induction l with
    | nil => intro vs r _; cases r; exact .nil
    | cons d l il =>
      intro vs r h
      simp only [List.all_cons, Bool.and_eq_true] at h
      cases r with
      | cons r t => exact .cons (ih r h.1) (il t h.2)
  intro n
  induction n with
  | zero => intro v d r h; cases r <;> first | exact .non | exact .bl _ | exact .int _ | exact .str _ | (simp [okD] at h)
  | succ n ih =>
    intro v d r h
    cases r with
    | non => exact .non
    | bl b => exact .bl b
    | int i => exact .int i
    | str x => exact .str x
    | tup a _ b => exact .tup (k.sqT a) (all n ih b (by simpa [okD] using h))
    | lst a b => exact .lst (k.sqL a) (all n ih b (by simpa [okD] using h))
    | dic a b => simp [okD] at h
    | scr a => exact .lst (k.sub.seq a) (dpAll_ints _)
    | ref a => simp [okD] at h
end
section
variable {X : Cx} {cl : Str → Addr} {W : WX}
/-- a list that has something, beside the empty one -/
def isNE : D → D → Bool
  | .lst (_ :: _), .lst [] => true
  | _, _ => false
def gEq (neg : Bool) : D → D → Store → Option D := fun a b _ => if okD 12 a && okD 12 b then some (.bl (xor neg (deq a b))) else if (!neg && isNE a b) = true then some (.bl false) else none
def rEqN (K : PySem.W.Frag) : R2 := fun x y H Q => ∃ a b xs, x = .ref a ∧ y = .ref b ∧ SqL K H a xs ∧ SqL K H b [] ∧ xs ≠ [] ∧ Q (.bl false) H
theorem op_eqN (hu : X.A.units + 64 < cLine) : OpR X (compareOp .Eq) (rEqN X.K) := by
  intro pins s σ H x y v u Q I rx ry h
  obtain ⟨a, b, xs, rfl, rfl, ha, hb, hx, q⟩ := h
  cases (show v = Value.ref a from rx)
  cases (show u = Value.ref b from ry)
  obtain ⟨us, r1, p1, _⟩ := I.list ha
  obtain ⟨ws, r2, p2, _⟩ := I.list hb
  have hsz : (us.toArray.size != ws.toArray.size) = true := by
    rw [List.size_toArray, List.size_toArray, ← r1.length, ← r2.length]
    cases xs with
    | nil => exact absurd rfl hx
    | cons z l => simp
  exact SeqAt.RcAt.lists_lengths (A := X.A) p1.isList p2.isList hsz (by omega) _ _ _ _ ⟨.bl false, H, I, rfl, q⟩
theorem o_eq (hu : X.A.units + 64 < cLine) : OpR X (compareOp .Eq) (r2 X.K cl (gEq false)) := by
  refine of2 ((op_eqD hu).or (op_eqN hu)) fun x y H Q w S d e z k r1 r2 hg q => ?_
  unfold gEq at hg
  split at hg
  · rename_i h
    rw [Bool.and_eq_true] at h
    cases hg
    rw [Bool.false_xor] at q
    exact .inl ⟨_, _, k.dp 12 r1 h.1, k.dp 12 r2 h.2, okD_shaped h.1 (by decide), okD_shaped h.2 (by decide), q w _ H (Ext.refl _ _) k (.bl _)⟩
  · split at hg
    · rename_i h
      cases hg
      rw [Bool.not_false, Bool.true_and] at h
      unfold isNE at h
      split at h
      · cases r1 with
        | lst a1 b1 =>
          cases r2 with
          | lst a2 b2 =>
            cases b1 with
            | cons c1 c2 =>
              cases b2
              exact .inr ⟨_, _, _, rfl, rfl, k.sqL a1, k.sqL a2, by simp, q w _ H (Ext.refl _ _) k (.bl _)⟩
      · cases h
    · cases hg
theorem o_ne (hu : X.A.units + 64 < cLine) : OpR X (compareOp .NotEq) (r2 X.K cl (gEq true)) := by
  refine of2 (op_neD hu) fun x y H Q w S d e z k r1 r2 hg q => ?_
  unfold gEq at hg
  split at hg
  · rename_i h
    rw [Bool.and_eq_true] at h
    cases hg
    rw [Bool.true_xor] at q
    exact ⟨_, _, k.dp 12 r1 h.1, k.dp 12 r2 h.2, okD_shaped h.1 (by decide), okD_shaped h.2 (by decide), q w _ H (Ext.refl _ _) k (.bl _)⟩
  · rw [if_neg (by simp)] at hg
    cases hg
/-- the ints of a tuple -/
def ints? : List D → Option (List Int)
  | [] => some []
  | .int i :: l => (ints? l).map (i :: ·)
  | _ :: _ => none
theorem ints_ra {K : PySem.W.Frag} {w : Wd} : ∀ {l : List D} {vs : List V} {ns : List Int}, RA K w vs l → ints? l = some ns → vs = ns.map V.int
  | [], _, _, .nil, e => by cases e; rfl
  | .int i :: l, _, ns, .cons r t, e => by
    simp only [ints?, Option.map_eq_some_iff] at e
    obtain ⟨ms, e1, rfl⟩ := e
    cases r
    rw [ints_ra t e1]
    rfl
def gLt : D → D → Store → Option D
  | .int i, .int j, _ => some (.bl (decide (i < j)))
  | .tup a, .tup b, _ => match ints? a, ints? b with
    | some ns, some ms => some (.bl (HT.lexLt ns ms))
    | _, _ => none
  | _, _, _ => none
theorem o_lt (hu : X.A.units + 64 < cLine) : OpR X (compareOp .Lt) (r2 X.K cl gLt) := by
  refine of2 (op_lt.or (op_ltT (Nat.lt_of_le_of_lt (Nat.le_add_right _ _) hu))) fun x y H Q w S d e z k r1 r2 hg q => ?_
  cases d <;> cases e <;> simp only [gLt] at hg <;> try cases hg
  · cases r1; cases r2
    exact .inl ⟨_, _, rfl, rfl, q w _ H (Ext.refl _ _) k (.bl _)⟩
  · obtain ⟨a, vs, rfl, ha, ra⟩ := r1.tup_inv
    obtain ⟨b, us, rfl, hb, rb⟩ := r2.tup_inv
    split at hg
    · rename_i ns ms e1 e2
      cases hg
      have h1 := ints_ra ra e1
      have h2 := ints_ra rb e2
      subst h1 h2
      exact .inr ⟨a, b, ns, ms, rfl, rfl, k.sqT ha, k.sqT hb, q w _ H (Ext.refl _ _) k (.bl _)⟩
    · cases hg
def gI2 (f : Int → Int → Bool) : D → D → Store → Option D
  | .int i, .int j, _ => some (.bl (f i j))
  | _, _, _ => none
theorem oI2 {op : CmpOp} {f : Int → Int → Bool} (h : OpR X (compareOp op) (rI0 fun i j => .bl (f i j))) : OpR X (compareOp op) (r2 X.K cl (gI2 f)) := by
  refine of2 h fun x y H Q w S d e z k r1 r2 hg q => ?_
  cases d <;> cases e <;> simp only [gI2] at hg <;> try cases hg
  cases r1; cases r2
  exact ⟨_, _, rfl, rfl, q w _ H (Ext.refl _ _) k (.bl _)⟩
abbrev gLe := gI2 fun i j => decide (i ≤ j)
abbrev gGt := gI2 fun i j => decide (j < i)
abbrev gGe := gI2 fun i j => decide (j ≤ i)
theorem o_le : OpR X (compareOp .LtE) (r2 X.K cl gLe) := oI2 op_le
theorem o_gt : OpR X (compareOp .Gt) (r2 X.K cl gGt) := oI2 op_gt
theorem o_ge : OpR X (compareOp .GtE) (r2 X.K cl gGe) := oI2 op_ge
/-- is None, is True, is False -/
def isNonD : D → Bool
  | .non => true
  | _ => false
def gIs (neg : Bool) : D → D → Store → Option D
  | d, .non, _ => some (.bl (xor neg (isNonD d)))
  | .bl a, .bl b, _ => some (.bl (xor neg (decide (a = b))))
  | _, _, _ => none
theorem isNon_v {K : PySem.W.Frag} {w : Wd} {v : V} {d : D} (r : R K w v d) : decide (v = .non) = isNonD d := by
  cases r <;> first | rfl | (exact decide_eq_false (fun e => nomatch e))
theorem o_is : OpR X (compareOp .Is) (r2 X.K cl (gIs false)) := by
  refine of2 (op_isN.or op_isBl) fun x y H Q w S d e z k r1 r2 hg q => ?_
  cases e <;> first
    | (simp only [gIs] at hg
       cases hg
       cases r2
       rw [Bool.false_xor] at q
       exact .inl ⟨rfl, by rw [isNon_v r1]; exact q w _ H (Ext.refl _ _) k (.bl _)⟩)
    | (cases d <;> simp only [gIs] at hg <;> try cases hg
       all_goals (cases r1; cases r2
                  rw [Bool.false_xor] at q
                  exact .inr ⟨_, _, rfl, rfl, q w _ H (Ext.refl _ _) k (.bl _)⟩))
theorem o_isnot : OpR X (compareOp .IsNot) (r2 X.K cl (gIs true)) := by
  refine of2 (op_notN.or op_notBl) fun x y H Q w S d e z k r1 r2 hg q => ?_
  cases e <;> first
    | (simp only [gIs] at hg
       cases hg
       cases r2
       rw [Bool.true_xor] at q
       exact .inl ⟨rfl, by rw [isNon_v r1]; exact q w _ H (Ext.refl _ _) k (.bl _)⟩)
    | (cases d <;> simp only [gIs] at hg <;> try cases hg
       all_goals (cases r1; cases r2
                  rw [Bool.true_xor] at q
                  exact .inr ⟨_, _, rfl, rfl, q w _ H (Ext.refl _ _) k (.bl _)⟩))
end
end BW
namespace BW
open PySem L2
section
variable {X : Cx}
def rInT (K : PySem.W.Frag) (neg : Bool) : R2 := fun x y H Q => ∃ d ds, Dp K H x d ∧ Dp K H y (.tuple ds) ∧ SeqAt.shaped d = true ∧ SeqAt.shaped (.tuple ds) = true ∧ Q (.bl (xor neg (ds.any fun z => PyData.eqv z d))) H
theorem op_inT (hu : X.A.units + 65 < cLine) : OpR X (compareOp .In) (rInT X.K false) := by
  intro pins s σ H x y v u Q I rx ry h
  obtain ⟨d, ds, hd, he, sd, se, q⟩ := h
  obtain ⟨as, r1⟩ := Dp.reads I d x v hd rx
  obtain ⟨bs, r2⟩ := Dp.reads I (.tuple ds) y u he ry
  rw [Bool.false_xor] at q
  exact SeqAt.in_tuple_reads r2 r1 (SeqAt.canLay_of_shaped se) (SeqAt.canLay_of_shaped sd) (PyProof.Rows.room_in_shaped sd hu) ⟨.bl _, H, I, rfl, q⟩
theorem op_notInT (hu : X.A.units + 65 < cLine) : OpR X (compareOp .NotIn) (rInT X.K true) := by
  intro pins s σ H x y v u Q I rx ry h
  obtain ⟨d, ds, hd, he, sd, se, q⟩ := h
  obtain ⟨as, r1⟩ := Dp.reads I d x v hd rx
  obtain ⟨bs, r2⟩ := Dp.reads I (.tuple ds) y u he ry
  rw [Bool.true_xor] at q
  exact SeqAt.notIn_tuple_reads r2 r1 (SeqAt.canLay_of_shaped se) (SeqAt.canLay_of_shaped sd) (PyProof.Rows.room_in_shaped sd hu) ⟨.bl _, H, I, rfl, q⟩
end
theorem any_toPys (d : D) : ∀ l : List D, (toPys l).any (fun z => PyData.eqv z (toPy d)) = l.any fun z => deq z d
  | [] => rfl
  | e :: l => by simp only [toPys, List.any_cons, any_toPys d l]; rfl
section
variable {X : Cx} {cl : Str → Addr} {W : WX}
def gIn (neg : Bool) : D → D → Store → Option D
  | d, .lst l, _ => if okD 12 d && okD 12 (.lst l) then some (.bl (xor neg (l.any fun z => deq z d))) else none
  | d, .tup l, _ => if okD 12 d && okD 12 (.tup l) then some (.bl (xor neg (l.any fun z => deq z d))) else none
  | .str a, .str b, _ => match a.cps.toList with
    | [c] => some (.bl (xor neg (decide (c ∈ b.cps.toList))))
    | _ => none
  | _, _, _ => none
theorem str_one {a : Str} {c : Nat} (h : a.cps.toList = [c]) : a = ⟨#[c]⟩ := by
  obtain ⟨⟨l⟩⟩ := a
  simp only at h
  subst h
  rfl
theorem o_in (hu : X.A.units + 65 < cLine) : OpR X (compareOp .In) (r2 X.K cl (gIn false)) := by
  refine of2 ((op_inD hu).or ((op_inT hu).or op_in_sign)) fun x y H Q w S d e z k r1 r2 hg q => ?_
  cases e <;> try (cases d <;> simp only [gIn] at hg <;> cases hg)
  · cases d <;> simp only [gIn] at hg <;> try cases hg
    cases r1; cases r2
    split at hg
    · rename_i a b c hc
      cases hg
      rw [Bool.false_xor] at q
      exact .inr (.inr ⟨c, _, by rw [str_one hc], rfl, q w _ H (Ext.refl _ _) k (.bl _)⟩)
    · cases hg
  · rename_i l
    have hg : (if okD 12 d && okD 12 (.tup l) then some (D.bl (xor false (l.any fun z => deq z d))) else none) = some z := by cases d <;> exact hg
    split at hg
    · rename_i h
      rw [Bool.and_eq_true] at h
      cases hg
      refine .inr (.inl ⟨_, toPys l, k.dp 12 r1 h.1, k.dp 12 r2 h.2, okD_shaped h.1 (by decide), okD_shaped (d := .tup l) h.2 (by decide), ?_⟩)
      rw [any_toPys]
      exact q w _ H (Ext.refl _ _) k (.bl _)
    · cases hg
  · rename_i l
    have hg : (if okD 12 d && okD 12 (.lst l) then some (D.bl (xor false (l.any fun z => deq z d))) else none) = some z := by cases d <;> exact hg
    split at hg
    · rename_i h
      rw [Bool.and_eq_true] at h
      cases hg
      rw [Bool.false_xor] at q
      refine .inl ⟨_, toPys l, k.dp 12 r1 h.1, k.dp 12 r2 h.2, okD_shaped h.1 (by decide), okD_shaped (d := .lst l) h.2 (by decide), ?_⟩
      rw [any_toPys]
      exact q w _ H (Ext.refl _ _) k (.bl _)
    · cases hg
theorem o_notin (hu : X.A.units + 65 < cLine) : OpR X (compareOp .NotIn) (r2 X.K cl (gIn true)) := by
  refine of2 ((op_notInD hu).or ((op_notInT hu).or op_notIn_sign)) fun x y H Q w S d e z k r1 r2 hg q => ?_
  cases e <;> try (cases d <;> simp only [gIn] at hg <;> cases hg)
  · cases d <;> simp only [gIn] at hg <;> try cases hg
    cases r1; cases r2
    split at hg
    · rename_i a b c hc
      cases hg
      rw [Bool.true_xor] at q
      exact .inr (.inr ⟨c, _, by rw [str_one hc], rfl, q w _ H (Ext.refl _ _) k (.bl _)⟩)
    · cases hg
  · rename_i l
    have hg : (if okD 12 d && okD 12 (.tup l) then some (D.bl (xor true (l.any fun z => deq z d))) else none) = some z := by cases d <;> exact hg
    split at hg
    · rename_i h
      rw [Bool.and_eq_true] at h
      cases hg
      refine .inr (.inl ⟨_, toPys l, k.dp 12 r1 h.1, k.dp 12 r2 h.2, okD_shaped h.1 (by decide), okD_shaped (d := .tup l) h.2 (by decide), ?_⟩)
      rw [any_toPys]
      exact q w _ H (Ext.refl _ _) k (.bl _)
    · cases hg
  · rename_i l
    have hg : (if okD 12 d && okD 12 (.lst l) then some (D.bl (xor true (l.any fun z => deq z d))) else none) = some z := by cases d <;> exact hg
    split at hg
    · rename_i h
      rw [Bool.and_eq_true] at h
      cases hg
      rw [Bool.true_xor] at q
      refine .inl ⟨_, toPys l, k.dp 12 r1 h.1, k.dp 12 r2 h.2, okD_shaped h.1 (by decide), okD_shaped (d := .lst l) h.2 (by decide), ?_⟩
      rw [any_toPys]
      exact q w _ H (Ext.refl _ _) k (.bl _)
    · cases hg
def fChain (g g' : D → D → Store → Option D) (fa fb fc : Env → Store → Res D) : Env → Store → Res D := fun ρ S =>
  (fa ρ S).bind fun a S1 => (fb ρ S1).bind fun b S2 => match g a b S2 with
    | some (.bl true) => (fc ρ S2).bind fun c S3 => Res.of S3 (g' b c S3)
    | some (.bl false) => .ok (.bl false) S2
    | _ => .bad
theorem de_chain {op op' : CmpOp} {a b c : Expr} {pos : Pos} {g g' : D → D → Store → Option D} {fa fb fc : Env → Store → Res D} (ho : OpR X (compareOp op) (r2 X.K cl g)) (ho' : OpR X (compareOp op') (r2 X.K cl g'))
    (ha : DE X cl W a fa) (hb : DE X cl W b fb) (hc : DE X cl W c fc) (hm : lastMarks [op, op'] [b, c] = false := by with_unfolding_all rfl) : DE X cl W (.Compare a [op, op'] [b, c] pos) (fChain g g' fa fb fc) := by
  refine PE.imp (pe_chain ho ho' ha hb hc hm) fun σ H Q ⟨w, ρ, S, o, n, p⟩ => ?_
  refine tG.at o n (Post.bind p fun a S1 w1 x H1 e1 o1 r1 p1 => tG.at o1 (n.mono e1) (Post.bind p1 fun b S2 w2 y H2 e2 o2 r2 p2 => ?_))
  have n2 := (n.mono e1).mono e2
  split at p2
  · rename_i hg
    refine ⟨w2, S2, a, b, _, o2, r1.mono e2.le, r2, hg, fun w3 v H3 e3 o3 r3 => ⟨true, r3.bl_inv, ?_⟩⟩
    rw [if_pos rfl]
    refine tG.at o3 (n2.mono e3) (Post.bind (Post.mono e3 p2) fun c S4 w4 z H4 e4 o4 r4 p4 => ?_)
    cases hg' : g' b c S4 with
    | none => rw [hg'] at p4; exact p4.elim
    | some q =>
      rw [hg'] at p4
      exact ⟨w4, S4, b, c, q, o4, (r2.mono e3.le).mono e4.le, r4, hg', fun w' v H' e' o' r' => p4.okT e' o' r'⟩
  · rename_i hg
    refine ⟨w2, S2, a, b, _, o2, r1.mono e2.le, r2, hg, fun w3 v H3 e3 o3 r3 => ⟨false, r3.bl_inv, ?_⟩⟩
    rw [if_neg Bool.false_ne_true]
    exact p2.okT e3 o3 (.bl false)
  · exact p2.elim
def fB (f : Env → Store → Res D) : Env → Store → Res Bool := fun ρ S => (f ρ S).bind fun d S1 => match d with
  | .bl b => .ok b S1
  | _ => .bad
theorem t_test {f : Env → Store → Res D} {σ : L2.St} {H : Hp} {Q : Bool → Hp → Prop} (h : tG X.K cl W RB (fB f) σ H Q) : tG X.K cl W (R X.K) f σ H fun x H' => ∃ k, x = .bl k ∧ Q k H' := by
  obtain ⟨w, ρ, S, o, n, p⟩ := h
  refine tG.at o n (Post.bind p fun d S1 w1 x H1 e1 o1 r1 p1 => ?_)
  split at p1
  · rename_i b
    exact ⟨b, r1.bl_inv, p1.here o1 rfl⟩
  · exact p1.elim
theorem dt_cmp {op : CmpOp} {a b : Expr} {pos : Pos} {g : D → D → Store → Option D} {fa fb : Env → Store → Res D} (ho : OpR X (compareOp op) (r2 X.K cl g)) (ha : DE X cl W a fa) (hb : DE X cl W b fb) (hm : behindInMarks op b = false) : DT X cl W (.Compare a [op] [b] pos) (fB (f2 g fa fb)) := by
  refine PT.imp (pt_cmpR ho ha hb hm) fun σ H Q h => t2_of ?_
  have := t_test h
  exact this
theorem dt_val {e : Expr} {f : Env → Store → Res D} (h : DE X cl W e f) (he : ∀ whole, isTrue e X.env whole = (do let v ← whole; standAt e.pos; holding [v] (truthy v)) := by intro _; rfl) : DT X cl W e (fB f) :=
  PT.imp (pt_val h he) fun σ H Q h => t_test h
theorem dt_chain {op op' : CmpOp} {a b c : Expr} {pos : Pos} {g g' : D → D → Store → Option D} {fa fb fc : Env → Store → Res D} (ho : OpR X (compareOp op) (r2 X.K cl g)) (ho' : OpR X (compareOp op') (r2 X.K cl g'))
    (ha : DE X cl W a fa) (hb : DE X cl W b fb) (hc : DE X cl W c fc) (hm : lastMarks [op, op'] [b, c] = false := by with_unfolding_all rfl) : DT X cl W (.Compare a [op, op'] [b, c] pos) (fB (fChain g g' fa fb fc)) := by
  refine PT.imp (pt_chain ho ho' ha hb hc hm) fun σ H Q h => ?_
  obtain ⟨w, ρ, S, o, n, p⟩ := t_test h
  refine tG.at o n (Post.bind p fun a S1 w1 x H1 e1 o1 r1 p1 => tG.at o1 (n.mono e1) (Post.bind p1 fun b S2 w2 y H2 e2 o2 r2 p2 => ?_))
  have n2 := (n.mono e1).mono e2
  split at p2
  · rename_i hg
    refine ⟨w2, S2, a, b, _, o2, r1.mono e2.le, r2, hg, fun w3 v H3 e3 o3 r3 => ⟨true, r3.bl_inv, ?_⟩⟩
    rw [if_pos rfl]
    refine tG.at o3 (n2.mono e3) (Post.bind (Post.mono e3 p2) fun c S4 w4 z H4 e4 o4 r4 p4 => ?_)
    cases hg' : g' b c S4 with
    | none => rw [hg'] at p4; exact p4.elim
    | some q =>
      rw [hg'] at p4
      exact ⟨w4, S4, b, c, q, o4, (r2.mono e3.le).mono e4.le, r4, hg', fun w' v H' e' o' r' => p4.okT e' o' r'⟩
  · rename_i hg
    refine ⟨w2, S2, a, b, _, o2, r1.mono e2.le, r2, hg, fun w3 v H3 e3 o3 r3 => ⟨false, r3.bl_inv, ?_⟩⟩
    rw [if_neg Bool.false_ne_true]
    exact p2.okT e3 o3 (.bl false)
  · exact p2.elim
def fAnd (f g : Env → Store → Res Bool) : Env → Store → Res Bool := fun ρ S => (f ρ S).bind fun b S1 => if b = true then g ρ S1 else .ok false S1
def fOr (f g : Env → Store → Res Bool) : Env → Store → Res Bool := fun ρ S => (f ρ S).bind fun b S1 => if b = true then .ok true S1 else g ρ S1
def fNot (f : Env → Store → Res Bool) : Env → Store → Res Bool := fun ρ S => (f ρ S).bind fun b S1 => .ok (!b) S1
variable {a b : Expr} {rest : List Expr} {pos : Pos} {f g : Env → Store → Res Bool}
theorem dw_and1 (h : DT X cl W a f) : DW X cl W (.BoolOp .And [a] pos) f := pw_and1 h
theorem dw_or1 (h : DT X cl W a f) : DW X cl W (.BoolOp .Or [a] pos) f := pw_or1 h
theorem dw_and (h : DT X cl W a f) (t : DW X cl W (.BoolOp .And (b :: rest) pos) g) : DW X cl W (.BoolOp .And (a :: b :: rest) pos) (fAnd f g) := by
  refine PW.imp (pw_and h t) fun σ H Q ⟨w, ρ, S, o, n, p⟩ => tG.at o n (Post.bind p fun c S1 w1 x H1 e1 o1 r1 p1 => ?_)
  cases (show x = c from r1)
  cases c with
  | true => rw [if_pos rfl] at p1 ⊢; exact tG.at o1 (n.mono e1) p1
  | false => rw [if_neg Bool.false_ne_true] at p1 ⊢; exact p1.here o1 rfl
theorem dw_or (h : DT X cl W a f) (t : DW X cl W (.BoolOp .Or (b :: rest) pos) g) : DW X cl W (.BoolOp .Or (a :: b :: rest) pos) (fOr f g) := by
  refine PW.imp (pw_or h t) fun σ H Q ⟨w, ρ, S, o, n, p⟩ => tG.at o n (Post.bind p fun c S1 w1 x H1 e1 o1 r1 p1 => ?_)
  cases (show x = c from r1)
  cases c with
  | true => rw [if_pos rfl] at p1 ⊢; exact p1.here o1 rfl
  | false => rw [if_neg Bool.false_ne_true] at p1 ⊢; exact tG.at o1 (n.mono e1) p1
theorem DW.pt {e : Expr} (h : DW X cl W e f) : DT X cl W e f := PW.pt h
theorem dt_not (h : DT X cl W a f) : DT X cl W (.UnaryOp .Not a pos) (fNot f) := by
  refine PT.imp (pt_not h) fun σ H Q ⟨w, ρ, S, o, n, p⟩ => tG.at o n (Post.bind p fun c S1 w1 x H1 e1 o1 r1 p1 => ?_)
  cases (show x = c from r1)
  exact p1.here o1 rfl
variable {fa fb : Env → Store → Res D}
def vAnd (f g : Env → Store → Res D) : Env → Store → Res D := fun ρ S => (f ρ S).bind fun d S1 => match d with
  | .bl true => g ρ S1
  | .bl false => .ok (.bl false) S1
  | _ => .bad
def vOr (f g : Env → Store → Res D) : Env → Store → Res D := fun ρ S => (f ρ S).bind fun d S1 => match d with
  | .bl true => .ok (.bl true) S1
  | .bl false => g ρ S1
  | _ => .bad
def vNot (f : Env → Store → Res D) : Env → Store → Res D := fun ρ S => (f ρ S).bind fun d S1 => match d with
  | .bl b => .ok (.bl (!b)) S1
  | _ => .bad
theorem de_one {op} (h : DE X cl W a fa) : DE X cl W (.BoolOp op [a] pos) fa := pe_one h
theorem de_and (h : DE X cl W a fa) (t : DE X cl W (.BoolOp .And (b :: rest) pos) fb) : DE X cl W (.BoolOp .And (a :: b :: rest) pos) (vAnd fa fb) := by
  refine PE.imp (pe_and h t) fun σ H Q ⟨w, ρ, S, o, n, p⟩ => tG.at o n (Post.bind p fun c S1 w1 x H1 e1 o1 r1 p1 => ?_)
  split at p1
  · refine ⟨true, r1.bl_inv, ?_⟩
    rw [if_pos rfl]
    exact tG.at o1 (n.mono e1) p1
  · refine ⟨false, r1.bl_inv, ?_⟩
    rw [if_neg Bool.false_ne_true]
    exact p1.here o1 (.bl false)
  · exact p1.elim
theorem de_not (h : DE X cl W a fa) : DE X cl W (.UnaryOp .Not a pos) (vNot fa) := by
  refine PE.imp (pe_not h) fun σ H Q ⟨w, ρ, S, o, n, p⟩ => tG.at o n (Post.bind p fun c S1 w1 x H1 e1 o1 r1 p1 => ?_)
  split at p1
  · rename_i b
    exact ⟨b, r1.bl_inv, p1.here o1 (.bl _)⟩
  · exact p1.elim
def fNeg (f : Env → Store → Res D) : Env → Store → Res D := fun ρ S => (f ρ S).bind fun d S1 => match d with
  | .int i => .ok (.int (-i)) S1
  | _ => .bad
theorem de_neg (h : DE X cl W a fa) : DE X cl W (.UnaryOp .USub a pos) (fNeg fa) := by
  refine PE.imp (pe_un un_neg h) fun σ H Q ⟨w, ρ, S, o, n, p⟩ => tG.at o n (Post.bind p fun c S1 w1 x H1 e1 o1 r1 p1 => ?_)
  split at p1
  · rename_i i
    exact ⟨i, r1.int_inv, p1.here o1 (.int _)⟩
  · exact p1.elim
def fIf (t : Env → Store → Res Bool) (f g : Env → Store → Res D) : Env → Store → Res D := fun ρ S => (t ρ S).bind fun b S1 => if b = true then f ρ S1 else g ρ S1
theorem de_ifExp {c : Expr} (hc : DT X cl W c f) (ha : DE X cl W a fa) (hb : DE X cl W b fb) : DE X cl W (.IfExp c a b pos) (fIf f fa fb) := by
  refine PE.imp (pe_ifExp hc ha hb) fun σ H Q ⟨w, ρ, S, o, n, p⟩ => tG.at o n (Post.bind p fun c S1 w1 x H1 e1 o1 r1 p1 => ?_)
  cases (show x = c from r1)
  cases c with
  | true => rw [if_pos rfl] at p1 ⊢; exact tG.at o1 (n.mono e1) p1
  | false => rw [if_neg Bool.false_ne_true] at p1 ⊢; exact tG.at o1 (n.mono e1) p1
end
end BW
namespace BW
open PySem L2
def keyD : D → Option Key
  | .int i => some (.inl i)
  | .str x => some (.inr x)
  | _ => none
def kD : Key → D
  | .inl i => .int i
  | .inr x => .str x
theorem kD_R {K : PySem.W.Frag} {w : Wd} (k : Key) : R K w (kV k) (kD k) := by
  cases k with
  | inl i => exact .int i
  | inr x => exact .str x
def valD (kvs : List (Key × D)) (k : Key) : Option D := (kvs.find? fun kv => decide (kv.1 = k)).map (·.2)
def putD (kvs : List (Key × D)) (k : Key) (v : D) : List (Key × D) :=
  if (kvs.any fun kv => decide (kv.1 = k)) = true then kvs.map fun kv => if kv.1 = k then (kv.1, v) else kv else kvs ++ [(k, v)]
section
variable {K : PySem.W.Frag} {w : Wd}
theorem keyD_v {v : V} {d : D} {k : Key} (r : R K w v d) (h : keyD d = some k) : v = kV k := by
  cases r <;> simp only [keyD] at h <;> cases h <;> rfl
theorem RK.val {k : Key} : ∀ {vs : List (Key × V)} {ds : List (Key × D)}, RK K w vs ds → (valD ds k = none ∧ valV vs k = none) ∨ ∃ v d, valD ds k = some d ∧ valV vs k = some v ∧ R K w v d
  | _, _, .nil => .inl ⟨rfl, rfl⟩
  | _, _, .cons (k := j) (v := v) (d := d) r t => by
    by_cases e : j = k
    · refine .inr ⟨v, d, ?_, ?_, r⟩
      · simp [valD, List.find?_cons, e]
      · simp [valV, List.find?_cons, e]
    · rcases RK.val (k := k) t with ⟨h1, h2⟩ | ⟨v', d', h1, h2, h3⟩
      · refine .inl ⟨?_, ?_⟩
        · simpa [valD, List.find?_cons, e] using h1
        · simpa [valV, List.find?_cons, e] using h2
      · refine .inr ⟨v', d', ?_, ?_, h3⟩
        · simpa [valD, List.find?_cons, e] using h1
        · simpa [valV, List.find?_cons, e] using h2
theorem RK.any {k : Key} : ∀ {vs : List (Key × V)} {ds : List (Key × D)}, RK K w vs ds → (vs.any fun kv => decide (kv.1 = k)) = ds.any fun kv => decide (kv.1 = k)
  | _, _, .nil => rfl
  | _, _, .cons r t => by simp only [List.any_cons, RK.any t]
theorem RK.map {k : Key} {v : V} {d : D} (r : R K w v d) : ∀ {vs : List (Key × V)} {ds : List (Key × D)}, RK K w vs ds → RK K w (vs.map fun kv => if kv.1 = k then (kv.1, v) else kv) (ds.map fun kv => if kv.1 = k then (kv.1, d) else kv)
  | _, _, .nil => .nil
  | _, _, .cons (k := j) q t => by
    simp only [List.map_cons]
    by_cases e : j = k
    · rw [if_pos e, if_pos e]; exact .cons r (RK.map r t)
    · rw [if_neg e, if_neg e]; exact .cons q (RK.map r t)
theorem RK.snoc {k : Key} {v : V} {d : D} (r : R K w v d) : ∀ {vs : List (Key × V)} {ds : List (Key × D)}, RK K w vs ds → RK K w (vs ++ [(k, v)]) (ds ++ [(k, d)])
  | _, _, .nil => .cons r .nil
  | _, _, .cons q t => .cons q (RK.snoc r t)
theorem RK.put {k : Key} {v : V} {d : D} (r : R K w v d) {vs : List (Key × V)} {ds : List (Key × D)} (t : RK K w vs ds) : RK K w (putK vs k v) (putD ds k d) := by
  unfold putK putD
  rw [t.any]
  split
  · exact RK.map r t
  · exact RK.snoc r t
theorem RK.length : ∀ {vs : List (Key × V)} {ds : List (Key × D)}, RK K w vs ds → vs.length = ds.length
  | _, _, .nil => rfl
  | _, _, .cons _ t => by simp [RK.length t]
theorem RK.keys : ∀ {vs : List (Key × V)} {ds : List (Key × D)}, RK K w vs ds → vs.map (·.1) = ds.map (·.1)
  | _, _, .nil => rfl
  | _, _, .cons _ t => by simp [RK.keys t]
end
section
variable {X : Cx} {cl : Str → Addr} {W : WX}
/-- d[k], the key there, by values -/
theorem ix_dict (hu : X.A.units + 1 < cLine) : IxR X (fun x y H Q => ∃ a v, x = .ref a ∧ DGet H a y (some v) ∧ Q v H) := by
  intro value slice pins s σ H x y v u Q I rx ry h hs
  obtain ⟨a, z, rfl, g, q⟩ := h
  cases rx
  exact PyProof.Rows.tail_any (ops := [.ref a, u]) (dict_typeIs I g) PySem.F.slot_dict_getitem.lookup (d_getItem hu I g ry fun w' s3 I3 rw' => ⟨z, H, I3, rw', q⟩) hs
def gIx : D → D → Store → Option D
  | .tup l, .int i, _ => atI l i
  | .lst l, .int i, _ => atI l i
  | .str x, .int i, _ => if x.length ≤ LIM then (atI x.cps.toList i).map fun c => .str ⟨#[c]⟩ else none
  | .scr ns, .int i, _ => (atI ns i).map .int
  | .dic kvs, d, _ => (keyD d).bind fun k => valD kvs k
  | .ref n, d, S => match S[n]? with
    | some (.lst l) => match d with
      | .int i => atI l i
      | _ => none
    | some (.dic kvs) => (keyD d).bind fun k => valD kvs k
    | some (.dicL kvs) => (keyD d).bind fun k => valD kvs k
    | _ => none
  | _, _, _ => none
theorem RA.atI {K : PySem.W.Frag} {w : Wd} {vs : List V} {l : List D} {i : Int} {d : D} (r : RA K w vs l) (h : L2.atI l i = some d) : ∃ v, L2.atI vs i = some v ∧ R K w v d := by
  unfold L2.atI at h ⊢
  rw [r.length]
  cases e : ixN l.length i with
  | none => rw [e] at h; cases h
  | some j =>
    rw [e] at h
    exact r.get h
theorem IxR.imp {r r' : R2} (h : IxR X r) (i : ∀ x y H Q, r' x y H Q → r x y H Q) : IxR X r' := by
  intro value slice pins s σ H x y v u Q I rx ry q hs
  exact h value slice pins s σ H x y v u Q I rx ry (i x y H Q q) hs
theorem atI_map {α β : Type} (f : α → β) (l : List α) (i : Int) : L2.atI (l.map f) i = (L2.atI l i).map f := by
  unfold L2.atI
  rw [List.length_map]
  cases ixN l.length i <;> simp
theorem i_ix (hu : X.A.units + 1 < cLine) : IxR X (r2 X.K cl gIx) := by
  refine IxR.imp (ix_list.or (ix_tup.or (ix_str.or (ix_dict hu)))) fun x y H Q ⟨w, S, d, e, z, k, r1, r2, hg, q⟩ => ?_
  have dk : ∀ {a : Addr} {vs : List (Key × V)} {kvs : List (Key × D)}, Rd H a (.dK vs) → RK X.K w vs kvs → ((keyD e).bind fun k => valD kvs k) = some z → ∃ b v, V.ref a = .ref b ∧ DGet H b y (some v) ∧ Q v H := by
    intro a vs kvs ha ra hz
    cases hk : keyD e with
    | none => rw [hk] at hz; cases hz
    | some kk =>
      rw [hk] at hz
      have ey := keyD_v r2 hk
      subst ey
      rcases ra.val (k := kk) with ⟨h1, _⟩ | ⟨v, d', h1, h2, h3⟩
      · have hz : valD kvs kk = some z := hz
        rw [h1] at hz; cases hz
      · have hz : valD kvs kk = some z := hz
        rw [h1] at hz; cases hz
        exact ⟨a, v, rfl, .inl ⟨vs, kk, ha, rfl, h2.symm⟩, q w v H (Ext.refl _ _) k h3⟩
  cases d with
  | tup l =>
    obtain ⟨a, vs, rfl, ha, ra⟩ := r1.tup_inv
    cases e <;> simp only [gIx] at hg <;> try cases hg
    rename_i i
    cases r2
    obtain ⟨v, hv, rv⟩ := ra.atI hg
    exact .inr (.inl ⟨a, vs, i, v, rfl, rfl, k.sqT ha, hv, q w v H (Ext.refl _ _) k rv⟩)
  | lst l =>
    obtain ⟨a, vs, rfl, ha, ra⟩ := r1.lst_inv
    cases e <;> simp only [gIx] at hg <;> try cases hg
    rename_i i
    cases r2
    obtain ⟨v, hv, rv⟩ := ra.atI hg
    exact .inl ⟨a, vs, i, v, rfl, rfl, k.sqL ha, hv, q w v H (Ext.refl _ _) k rv⟩
  | str s =>
    cases r1
    cases e <;> simp only [gIx] at hg <;> try cases hg
    rename_i i
    cases r2
    split at hg
    · rename_i hl
      cases hc : L2.atI s.cps.toList i with
      | none => rw [hc] at hg; cases hg
      | some c =>
        rw [hc] at hg
        cases hg
        exact .inr (.inr (.inl ⟨s, i, c, rfl, rfl, lim_le hl, hc, q w _ H (Ext.refl _ _) k (.str _)⟩))
    · cases hg
  | scr ns =>
    obtain ⟨a, rfl, ha⟩ := r1.scr_inv
    cases e <;> simp only [gIx] at hg <;> try cases hg
    rename_i i
    cases r2
    cases hc : L2.atI ns i with
    | none => rw [hc] at hg; cases hg
    | some c =>
      rw [hc] at hg
      cases hg
      exact .inl ⟨a, _, i, .int c, rfl, rfl, k.sub.seq ha, by rw [atI_map, hc]; rfl, q w _ H (Ext.refl _ _) k (.int _)⟩
  | dic kvs =>
    obtain ⟨a, vs, rfl, ha, ra⟩ := r1.dic_inv
    exact .inr (.inr (.inr (dk (Rd.mono k.sub ha) ra (by cases e <;> exact hg))))
  | ref n =>
    obtain ⟨rfl, hn⟩ := r1.ref_inv
    have hg : (match S[n]? with
      | some (.lst l) => match e with
        | .int i => L2.atI l i
        | _ => none
      | some (.dic kvs) => (keyD e).bind fun k => valD kvs k
      | some (.dicL kvs) => (keyD e).bind fun k => valD kvs k
      | _ => none) = some z := by cases e <;> exact hg
    split at hg
    · rename_i l hc
      obtain ⟨_, vs, ha, ra⟩ := k.cell n _ hc
      split at hg
      · rename_i i r2 dk hg0
        cases r2
        obtain ⟨v, hv, rv⟩ := ra.atI hg
        exact .inl ⟨_, vs, i, v, rfl, rfl, SqL.of ha, hv, q w v H (Ext.refl _ _) k rv⟩
      · cases hg
    · rename_i kvs hc
      obtain ⟨_, vs, ha, ra⟩ := k.cell n _ hc
      exact .inr (.inr (.inr (dk (.inl ha) ra hg)))
    · rename_i kvs hc
      obtain ⟨_, o, vs, ha, ra⟩ := k.cell n _ hc
      exact .inr (.inr (.inr (dk (.inr ⟨o, ha⟩) ra hg)))
    · cases hg
  | _ => cases e <;> simp only [gIx] at hg <;> cases hg
theorem de_ix {a b : Expr} {pos : Pos} {fa fb : Env → Store → Res D} (hu : X.A.units + 1 < cLine) (ha : DE X cl W a fa) (hb : DE X cl W b fb) (hs : PlainIx b := by intro _ _; rfl) : DE X cl W (.Subscript a b pos) (f2 gIx fa fb) :=
  PE.imp (pe_ix (i_ix hu) ha hb hs) fun _ _ _ h => t2_of h
abbrev RO : Wd → Option Int → Option Int → Prop := fun _ b c => b = c
abbrev DO (X : Cx) (cl : Str → Addr) (W : WX) (e : Option Expr) (f : Env → Store → Res (Option Int)) : Prop := PO X e (tG X.K cl W RO f)
theorem PO.imp {X : Cx} {e : Option Expr} {t t' : TO} (h : PO X e t) (i : ∀ σ H Q, t' σ H Q → t σ H Q) : PO X e t' := ⟨fun pins s σ H Q I q => h.run pins s σ H Q I (i σ H Q q)⟩
def oNone : Env → Store → Res (Option Int) := fun _ S => .ok none S
def oSome (f : Env → Store → Res D) : Env → Store → Res (Option Int) := fun ρ S => (f ρ S).bind fun d S1 => match d with
  | .int i => .ok (some i) S1
  | _ => .bad
theorem do_none : DO X cl W none oNone := PO.imp po_none fun σ H Q ⟨w, ρ, S, o, n, p⟩ => p.here o rfl
theorem do_some {e : Expr} {f : Env → Store → Res D} (h : DE X cl W e f) : DO X cl W (some e) (oSome f) := by
  refine PO.imp (po_some h) fun σ H Q ⟨w, ρ, S, o, n, p⟩ => tG.at o n (Post.bind p fun d S1 w1 x H1 e1 o1 r1 p1 => ?_)
  split at p1
  · exact ⟨_, r1.int_inv, p1.here o1 rfl⟩
  · exact p1.elim
def cutD (xs : List D) (lo hi : Option Int) : List D := (xs.drop (HT.sIx xs.length 0 lo)).take (HT.sIx xs.length xs.length hi - HT.sIx xs.length 0 lo)
theorem RA.cut {K : PySem.W.Frag} {w : Wd} {vs : List V} {l : List D} (r : RA K w vs l) (lo hi : Option Int) : RA K w (cutV vs lo hi) (cutD l lo hi) := by
  unfold cutV cutD
  rw [r.length]
  exact (r.drop _).take _
def gCut : D → Option Int → Option Int → Option D
  | .tup l, lo, hi => some (.tup (cutD l lo hi))
  | .lst l, lo, hi => some (.lst (cutD l lo hi))
  | .str x, lo, hi => if x.length ≤ LIM then some (.str (cutS x lo hi)) else none
  | _, _, _ => none
def fCut (f : Env → Store → Res D) (l h : Env → Store → Res (Option Int)) : Env → Store → Res D := fun ρ S => (f ρ S).bind fun d S1 => (l ρ S1).bind fun lo S2 => (h ρ S2).bind fun hi S3 => Res.of S3 (gCut d lo hi)
theorem cutD_all {l : List D} {lo hi : Option Int} (h : HT.sIx l.length 0 lo = 0 ∧ HT.sIx l.length l.length hi = l.length) : cutD l lo hi = l := by
  unfold cutD
  rw [h.1, h.2]
  simp
theorem de_cut {e : Expr} {lo hi : Option Expr} {p2 pos : Pos} {f : Env → Store → Res D} {l h : Env → Store → Res (Option Int)} (he : DE X cl W e f) (hl : DO X cl W lo l) (hh : DO X cl W hi h) : DE X cl W (.Subscript e (.Slice lo hi none p2) pos) (fCut f l h) := by
  refine PE.imp (pe_slice (sl_list.or (sl_tupS.or sl_str)) he hl hh) fun σ H Q ⟨w, ρ, S, o, n, p⟩ => tG.at o n (Post.bind p fun d S1 w1 x H1 e1 o1 r1 p1 => tG.at o1 (n.mono e1) (Post.bind p1 fun i S2 w2 i' H2 e2 o2 ri p2 => ?_))
  cases (show i' = i from ri)
  refine tG.at o2 ((n.mono e1).mono e2) (Post.bind p2 fun j S3 w3 j' H3 e3 o3 rj p3 => ?_)
  cases (show j' = j from rj)
  have r3 := (r1.mono e2.le).mono e3.le
  cases d <;> simp only [gCut] at p3 <;> try exact p3.elim
  · split at p3
    · rename_i hl
      cases r3
      exact .inr (.inr ⟨_, rfl, lim_le hl, p3.here o3 (.str _)⟩)
    · exact p3.elim
  · obtain ⟨a, vs, rfl, ha, ra⟩ := r3.tup_inv
    refine .inr (.inl ⟨a, vs, rfl, o3.sqT ha, fun hw => ?_, fun _ q qo hq hd => ?_⟩)
    · rw [ra.length] at hw
      rw [cutD_all hw] at p3
      exact p3.here o3 r3
    · obtain ⟨e, o', r⟩ := o3.layT hq hd (ra.cut i j)
      exact p3.okT e o' r
  · obtain ⟨a, vs, rfl, ha, ra⟩ := r3.lst_inv
    refine .inl ⟨a, vs, rfl, o3.sqL ha, fun q hq => ?_⟩
    obtain ⟨e, o', r⟩ := o3.layL hq (ra.cut i j)
    exact p3.okT e o' r
def rN (K : PySem.W.Frag) (cl : Str → Addr) (g : List D → Store → Option D) : List V → Hp → VK → Prop := fun xs H Q => ∃ w S ds z, Ok K cl w S H ∧ RA K w xs ds ∧ g ds S = some z ∧
  ∀ w' v H', Ext w H w' H' → Ok K cl w' S H' → R K w' v z → Q v H'
def fN (g : List D → Store → Option D) (fa : Env → Store → Res (List D)) : Env → Store → Res D := fun ρ S => (fa ρ S).bind fun ds S1 => Res.of S1 (g ds S1)
theorem CallR.imp {f : Value} {r r' : List V → Hp → VK → Prop} (h : CallR X f r) (i : ∀ xs H Q, r' xs H Q → r xs H Q) : CallR X f r' := by
  intro pins s σ H xs us Q I rx q
  exact h pins s σ H xs us Q I rx (i xs H Q q)
theorem ofN {f : Value} {r : List V → Hp → VK → Prop} {g : List D → Store → Option D} (h : CallR X f r)
    (i : ∀ xs H Q w S ds z, Ok X.K cl w S H → RA X.K w xs ds → g ds S = some z → (∀ w' v H', Ext w H w' H' → Ok X.K cl w' S H' → R X.K w' v z → Q v H') → r xs H Q) : CallR X f (rN X.K cl g) :=
  CallR.imp h fun xs H Q ⟨w, S, ds, z, k, ra, hg, q⟩ => i xs H Q w S ds z k ra hg q
theorem tN_of {g : List D → Store → Option D} {fa : Env → Store → Res (List D)} {σ : L2.St} {H : Hp} {Q : VK} (h : tG X.K cl W (R X.K) (fN g fa) σ H Q) : tCB (rN X.K cl g) (tG X.K cl W (RA X.K) fa) σ H Q := by
  obtain ⟨w, ρ, S, o, n, p⟩ := h
  refine tG.at o n (Post.bind p fun ds S1 w1 xs H1 e1 o1 r1 p1 => ?_)
  cases hg : g ds S1 with
  | none => rw [hg] at p1; exact p1.elim
  | some z =>
    rw [hg] at p1
    exact ⟨w1, S1, ds, z, o1, r1, hg, fun w' v H' e' o' r' => p1.okT e' o' r'⟩
theorem de_callB {x : Str} {p pos : Pos} {e : Expr} {es : List Expr} {id : String} {g : List D → Store → Option D} {fa : Env → Store → Res (List D)} (hc : CallR X (.builtin id) (rN X.K cl g)) (hg : Gl X x) (hm : X.mg x = none) (hv : bootBuiltins x = some (.builtin id)) (ha : DA X cl W (e :: es) fa)
    (hn : x ≠ "__name__" := by decide) (hdb : (x == ("__debug__" : Str)) = false := by decide) (he : starEach (e :: es) X.env = (false, eval e X.env) :: starEach es X.env := by rfl) (hpl : (backTo pos (starEach es X.env)).any (·.1) = false := by rfl) :
    DE X cl W (.Call (.Name x p) (e :: es) [] pos) (fN g fa) := PE.imp (pe_callB hc hg hm hv ha hn hdb he hpl) fun _ _ _ h => tN_of h
theorem de_callTy {x : Str} {p pos : Pos} {e : Expr} {es : List Expr} {T : String} {g : List D → Store → Option D} {fa : Env → Store → Res (List D)} (hc : CallR X (.type T) (rN X.K cl g)) (hg : Gl X x) (hm : X.mg x = none) (hv : bootBuiltins x = some (.type T)) (ha : DA X cl W (e :: es) fa)
    (hn : x ≠ "__name__" := by decide) (hdb : (x == ("__debug__" : Str)) = false := by decide) (he : starEach (e :: es) X.env = (false, eval e X.env) :: starEach es X.env := by rfl) (hpl : (backTo pos (starEach es X.env)).any (·.1) = false := by rfl) :
    DE X cl W (.Call (.Name x p) (e :: es) [] pos) (fN g fa) := PE.imp (pe_callTy hc hg hm hv ha hn hdb he hpl) fun _ _ _ h => tN_of h
def spM (K : PySem.W.Frag) (cl : Str → Addr) (np : Nat) (m : List D → Store → Res D) : Sp := fun vs H Q E => ∃ w S ds, Ok K cl w S H ∧ RA K w vs ds ∧ ds.length = np ∧ Post K cl (fun c d _ H => E c d H) [] (R K) w H (m ds S) Q
def fM (n : Nat) (m : List D → Store → Res D) (fa : Env → Store → Res (List D)) : Env → Store → Res D := fun ρ S => (fa ρ S).bind fun ds S1 => if ds.length = n then m ds S1 else .bad
/-- a def of the text, as it stands: m is what it gives -/
structure Df (P : Program) (w : World) (K : PySem.W.Frag) (mg : Str → Option Value) (base : Heap) (cl : Str → Addr) (k : Nat) (x : Str) (ps : List Str) (m : List D → Store → Res D) : Prop where
  ex : ∃ f fd, FnOk P w K mg base (L2.CX P w) k f fd ps (spM K cl ps.length m) ∧ mg x = some (.ref f) ∧ PySem.W.keepIn K (.ref f) = true ∧ Binds K fd ps []
theorem Post.w {K : PySem.W.Frag} {α β : Type} {Rl : Wd → β → α → Prop} {W W' : WX} {σ σ' : L2.St} {w : Wd} {H : Hp} {r : Res α} {Q : β → Hp → Prop} (h : Post K cl W σ Rl w H r Q) (hW : ∀ c H', W (.ref (cl c)) none σ H' → W' (.ref (cl c)) none σ' H') : Post K cl W' σ' Rl w H r Q := by
  cases r with
  | ok d S => exact h
  | err c S => exact fun w' H' e o => hW c H' (h w' H' e o)
  | bad => exact h
theorem de_call {k j n : Nat} {x : Str} {ps : List Str} {m : List D → Store → Res D} {p pos : Pos} {e : Expr} {es : List Expr} {fa : Env → Store → Res (List D)} (G : Df X.prog X.w X.K X.mg X.base cl k x ps m) (hr : Room j X.A) (hj : k ≤ j) (hg : Gl X x) (tk : Takes X W) (ha : DA X cl W (e :: es) fa)
    (hn : ps.length = n := by rfl) (hdb : (x == ("__debug__" : Str)) = false := by decide) (he : starEach (e :: es) X.env = (false, eval e X.env) :: starEach es X.env := by rfl) (hpl : (backTo pos (starEach es X.env)).any (·.1) = false := by rfl) :
    DE X cl W (.Call (.Name x p) (e :: es) [] pos) (fM n m fa) := by
  subst hn
  obtain ⟨f, fd, F, hm, hk, hb⟩ := G.ex
  refine PE.imp (pe_callSD F (hr.mono hj) hg hm hk hb .nil (fun σ => passAt tk σ) ha hdb he hpl) fun σ H Q ⟨w, ρ, S, o, n, p⟩ => ?_
  refine tG.at o n (Post.bind p fun ds S1 w1 xs H1 e1 o1 r1 p1 => ?_)
  split at p1
  · rename_i hl
    rw [List.append_nil]
    exact ⟨w1, S1, ds, o1, r1, hl, Post.w p1 fun c H' h => h⟩
  · exact p1.elim
end
end BW
namespace BW
open PySem L2
inductive Out where
  | next (ρ : Env) (S : Store) | ret (d : D) (S : Store) | brk (ρ : Env) (S : Store) | cont (ρ : Env) (S : Store) | err (c : Str) (ρ : Env) (S : Store) | bad
abbrev Stm := Env → Store → Out
structure Pt where
  w : Wd
  H : Hp
def Fresh (H0 : Hp) (σ : L2.St) (ρ : Env) : Prop := ∀ (i : Nat) (s : Slot) (a : Addr), ρ[i]? = some (some s) → s.isOwn = true → σ[i]? = some (some (.ref a)) → H0 a = none
section
variable (K : PySem.W.Frag) (cl : Str → Addr) (e : Pt) (W : WX)
/-- a frame's state -/
structure Fs (σ : L2.St) (H : Hp) (w : Wd) (ρ : Env) (S : Store) : Prop where
  ext : Ext e.w e.H w H
  ok : Ok K cl w S H
  env : EnvR K w H σ ρ
  fr : Fresh e.H σ ρ
def PostS (w : Wd) (Z : Ends) (o : Out) : Prop := match o with
  | .next ρ' S' => ∀ w' σ' H', Le w w' → Fs K cl e σ' H' w' ρ' S' → Z.nx σ' H'
  | .ret d S' => ∀ w' v H', Le w w' → Ext e.w e.H w' H' → Ok K cl w' S' H' → R K w' v d → Z.rt v H'
  | .brk ρ' S' => ∀ w' σ' H', Le w w' → Fs K cl e σ' H' w' ρ' S' → Z.bk σ' H'
  | .cont ρ' S' => ∀ w' σ' H', Le w w' → Fs K cl e σ' H' w' ρ' S' → Z.ct σ' H'
  | .err c ρ' S' => ∀ w' σ' H', Le w w' → Fs K cl e σ' H' w' ρ' S' → W (.ref (cl c)) none σ' H'
  | .bad => False
def tSt (g : Stm) : TS := fun Z σ H => ∃ w ρ S, Fs K cl e σ H w ρ S ∧ PostS K cl e W w Z (g ρ S)
end
abbrev DS (X : Cx) (cl : Str → Addr) (e : Pt) (W : WX) (st : Stmt) (g : Stm) : Prop := PS X st (tSt X.K cl e W g)
abbrev DSs (X : Cx) (cl : Str → Addr) (e : Pt) (W : WX) (st : List Stmt) (g : Stm) : Prop := PSs X st (tSt X.K cl e W g)
/-- an expression within a statement -/
def Out.of {α : Type} (r : Res α) (ρ : Env) (k : α → Store → Out) : Out := match r with
  | .ok a S => k a S
  | .err c S => .err c ρ S
  | .bad => .bad
section
variable {K : PySem.W.Frag} {cl : Str → Addr} {e : Pt} {W : WX} {Z : Ends} {σ : L2.St} {H : Hp} {w : Wd} {ρ : Env} {S : Store}
theorem Le.refl (w : Wd) : Le w w := ⟨Nat.le_refl _, fun _ _ => rfl, Same.refl _⟩
theorem Le.trans {w w1 w2 : Wd} (a : Le w w1) (b : Le w1 w2) : Le w w2 := ⟨Nat.le_trans a.n b.n, fun i hi => (b.k i (Nat.lt_of_lt_of_le hi a.n)).trans (a.k i hi), a.F.trans b.F⟩
theorem PostS.le {w' : Wd} {o : Out} (l : Le w w') (h : PostS K cl e W w Z o) : PostS K cl e W w' Z o := by
  cases o with
  | next ρ S => exact fun w2 σ2 H2 l2 f2 => h w2 σ2 H2 (l.trans l2) f2
  | ret d S => exact fun w2 v2 H2 l2 f2 => h w2 v2 H2 (l.trans l2) f2
  | brk ρ S => exact fun w2 σ2 H2 l2 f2 => h w2 σ2 H2 (l.trans l2) f2
  | cont ρ S => exact fun w2 σ2 H2 l2 f2 => h w2 σ2 H2 (l.trans l2) f2
  | err c ρ S => exact fun w2 σ2 H2 l2 f2 => h w2 σ2 H2 (l.trans l2) f2
  | bad => exact h
theorem Fs.on {w' : Wd} {H' : Hp} {S' : Store} (f : Fs K cl e σ H w ρ S) (x : Ext w H w' H') (o : Ok K cl w' S' H') : Fs K cl e σ H' w' ρ S' := ⟨f.ext.trans x, o, f.env.mono x, f.fr⟩
theorem PostS.expr {α β : Type} {Rl : Wd → β → α → Prop} {r : Res α} {k : α → Store → Out} {Q : β → Hp → Prop} (h : PostS K cl e W w Z (Out.of r ρ k)) (f : Fs K cl e σ H w ρ S)
    (hk : ∀ d S1 w1 v H1, Ext w H w1 H1 → Fs K cl e σ H1 w1 ρ S1 → Rl w1 v d → PostS K cl e W w1 Z (k d S1) → Q v H1) : Post K cl W σ Rl w H r Q := by
  cases r with
  | ok d S1 => exact fun w1 v H1 e1 o1 r1 => hk d S1 w1 v H1 e1 (f.on e1 o1) r1 (PostS.le e1.le h)
  | err c S1 => exact fun w1 H1 e1 o1 => h w1 σ H1 e1.le (f.on e1 o1)
  | bad => exact h
theorem Fs.tG {α β : Type} {Rl : Wd → β → α → Prop} {f : Env → Store → Res α} {Q : β → Hp → Prop} (x : Fs K cl e σ H w ρ S) (p : Post K cl W σ Rl w H (f ρ S) Q) : BW.tG K cl W Rl f σ H Q := BW.tG.at x.ok x.env p
/-- a slot takes a value -/
theorem Fs.set {i : Nat} {v : V} {d : D} (f : Fs K cl e σ H w ρ S) (r : R K w v d) : Fs K cl e (σ.set i (some v)) H w (ρ.set i (some (.dat d))) S := by
  refine ⟨f.ext, f.ok, ⟨by simp [f.env.len], fun j s hs => ?_, fun j l s t u hjl hs ht os ot hj hl => ?_⟩, fun j s a hs os hj => ?_⟩
  · by_cases e : j = i
    · subst e
      have hj : j < ρ.length := by
        have := (List.getElem?_eq_some_iff.mp hs).1
        simpa using this
      rw [List.getElem?_set_self hj] at hs
      cases hs
      exact ⟨v, by rw [List.getElem?_set_self (by rw [f.env.len]; exact hj)], r⟩
    · rw [List.getElem?_set_ne (Ne.symm e)] at hs ⊢
      exact f.env.slot j s hs
  · by_cases e : j = i
    · subst e
      by_cases hj : j < ρ.length
      · rw [List.getElem?_set_self hj] at hs; cases hs; cases os
      · rw [List.getElem?_eq_none (by simpa using Nat.le_of_not_lt hj)] at hs; cases hs
    · by_cases e2 : l = i
      · subst e2
        by_cases hj : l < ρ.length
        · rw [List.getElem?_set_self hj] at ht; cases ht; cases ot
        · rw [List.getElem?_eq_none (by simpa using Nat.le_of_not_lt hj)] at ht; cases ht
      · rw [List.getElem?_set_ne (Ne.symm e)] at hs hj
        rw [List.getElem?_set_ne (Ne.symm e2)] at ht hl
        exact f.env.sep j l s t u hjl hs ht os ot hj hl
  · by_cases e : j = i
    · subst e
      by_cases hj' : j < ρ.length
      · rw [List.getElem?_set_self hj'] at hs; cases hs; cases os
      · rw [List.getElem?_eq_none (by simpa using Nat.le_of_not_lt hj')] at hs; cases hs
    · rw [List.getElem?_set_ne (Ne.symm e)] at hs hj
      exact f.fr j s a hs os hj
/-- .. a new own object -/
theorem Fs.setOwn {i : Nat} {a : Addr} {s : Slot} (f : Fs K cl e σ H w ρ S) (so : s.isOwn = true) (ok : SlotOk K w H s (.ref a)) (h0 : e.H a = none) (sep : ∀ j t, ρ[j]? = some (some t) → t.isOwn = true → j ≠ i → σ[j]? ≠ some (some (.ref a))) :
    Fs K cl e (σ.set i (some (.ref a))) H w (ρ.set i (some s)) S := by
  refine ⟨f.ext, f.ok, ⟨by simp [f.env.len], fun j t hs => ?_, fun j l t t' u hjl hs ht os ot hj hl => ?_⟩, fun j t b hs os hj => ?_⟩
  · by_cases e : j = i
    · subst e
      have hj : j < ρ.length := by
        have := (List.getElem?_eq_some_iff.mp hs).1
        simpa using this
      rw [List.getElem?_set_self hj] at hs
      cases hs
      exact ⟨_, by rw [List.getElem?_set_self (by rw [f.env.len]; exact hj)], ok⟩
    · rw [List.getElem?_set_ne (Ne.symm e)] at hs ⊢
      exact f.env.slot j t hs
  · by_cases e : j = i
    · subst e
      have hl' : σ[l]? = some (some u) := by rw [List.getElem?_set_ne hjl] at hl; exact hl
      have ht' : ρ[l]? = some (some t') := by rw [List.getElem?_set_ne hjl] at ht; exact ht
      have hj2 : j < σ.length := by
        have := (List.getElem?_eq_some_iff.mp hj).1
        simpa using this
      rw [List.getElem?_set_self hj2] at hj
      cases hj
      exact sep l t' ht' ot (Ne.symm hjl) hl'
    · by_cases e2 : l = i
      · subst e2
        have hl' : σ[j]? = some (some u) := by rw [List.getElem?_set_ne (Ne.symm hjl)] at hj; exact hj
        have ht' : ρ[j]? = some (some t) := by rw [List.getElem?_set_ne (Ne.symm hjl)] at hs; exact hs
        have hj2 : l < σ.length := by
          have := (List.getElem?_eq_some_iff.mp hl).1
          simpa using this
        rw [List.getElem?_set_self hj2] at hl
        cases hl
        exact sep j t ht' os hjl hl'
      · rw [List.getElem?_set_ne (Ne.symm e)] at hs hj
        rw [List.getElem?_set_ne (Ne.symm e2)] at ht hl
        exact f.env.sep j l t t' u hjl hs ht os ot hj hl
  · by_cases e' : j = i
    · subst e'
      have hj2 : j < σ.length := by
        have := (List.getElem?_eq_some_iff.mp hj).1
        simpa using this
      rw [List.getElem?_set_self hj2] at hj
      cases hj
      exact h0
    · rw [List.getElem?_set_ne (Ne.symm e')] at hs hj
      exact f.fr j t b hs os hj
end
section
variable {X : Cx} {cl : Str → Addr} {e : Pt} {W : WX} {st : Stmt} {rest : List Stmt} {pos : Pos}
def sNil : Stm := fun ρ S => .next ρ S
def sSeq (g h : Stm) : Stm := fun ρ S => match g ρ S with
  | .next ρ1 S1 => h ρ1 S1
  | o => o
theorem dss_nil : DSs X cl e W [] sNil := PSs.imp pss_nil fun Z σ H ⟨w, ρ, S, f, p⟩ => p w σ H (Le.refl _) f
theorem dss_cons {g h : Stm} (h1 : DS X cl e W st g) (h2 : DSs X cl e W rest h) : DSs X cl e W (st :: rest) (sSeq g h) := by
  refine PSs.imp (pss_cons h1 h2) fun Z σ H ⟨w, ρ, S, f, p⟩ => ⟨w, ρ, S, f, ?_⟩
  unfold sSeq at p
  cases hg : g ρ S with
  | next ρ1 S1 =>
    rw [hg] at p
    exact fun w1 σ1 H1 l1 f1 => ⟨w1, ρ1, S1, f1, PostS.le l1 p⟩
  | ret d S1 => rw [hg] at p; exact p
  | brk ρ1 S1 => rw [hg] at p; exact p
  | cont ρ1 S1 => rw [hg] at p; exact p
  | err c ρ1 S1 => rw [hg] at p; exact p
  | bad => rw [hg] at p; exact p
theorem dss_one {g : Stm} (h1 : DS X cl e W st g) : DSs X cl e W [st] g := pss_one h1
def sExpr (f : Env → Store → Res BW.D) : Stm := fun ρ S => Out.of (f ρ S) ρ fun _ S1 => .next ρ S1
theorem ds_expr {ex : Expr} {f : Env → Store → Res BW.D} (h : DE X cl W ex f) (hs : swapsWith ex none pos.line X.env = pure false := by rfl) : DS X cl e W (.Expr ex pos) (sExpr f) := by
  refine PS.imp (ps_expr h hs) fun Z σ H ⟨w, ρ, S, fs, p⟩ => fs.tG (PostS.expr p fs fun d S1 w1 v H1 _ f1 r1 p1 => p1 w1 σ H1 (Le.refl _) f1)
def sRet (f : Env → Store → Res BW.D) : Stm := fun ρ S => Out.of (f ρ S) ρ fun d S1 => .ret d S1
theorem ds_ret {ex : Expr} {f : Env → Store → Res BW.D} (h : DE X cl W ex f) : DS X cl e W (.Return (some ex) pos) (sRet f) :=
  PS.imp (ps_ret h) fun Z σ H ⟨w, ρ, S, fs, p⟩ => fs.tG (PostS.expr p fs fun d S1 w1 v H1 _ f1 r1 p1 => p1 w1 v H1 (Le.refl _) f1.ext f1.ok r1)
def sIf (t : Env → Store → Res Bool) (g h : Stm) : Stm := fun ρ S => Out.of (t ρ S) ρ fun b S1 => if b = true then g ρ S1 else h ρ S1
theorem ds_if {c : Expr} {a b : List Stmt} {t : Env → Store → Res Bool} {g h : Stm} (hc : DT X cl W c t) (ha : DSs X cl e W a g) (hb : DSs X cl e W b h) : DS X cl e W (.If c a b pos) (sIf t g h) := by
  refine PS.imp (ps_if hc ha hb) fun Z σ H ⟨w, ρ, S, fs, p⟩ => fs.tG (PostS.expr p fs fun d S1 w1 v H1 _ f1 r1 p1 => ?_)
  cases (show v = d from r1)
  cases d with
  | true => rw [if_pos rfl] at p1 ⊢; exact ⟨w1, ρ, S1, f1, p1⟩
  | false => rw [if_neg Bool.false_ne_true] at p1 ⊢; exact ⟨w1, ρ, S1, f1, p1⟩
def sSet (i : Nat) (f : Env → Store → Res BW.D) : Stm := fun ρ S => Out.of (f ρ S) ρ fun d S1 => .next (ρ.set i (some (.dat d))) S1
theorem ds_set {i : Nat} {x : Str} {ex : Expr} {pos' : Pos} {f : Env → Store → Res BW.D} (hN : X.N.Nodup) (hi : X.N[i]? = some x) (hx : Loc X.env.scope x) (h : DE X cl W ex f) (hs : swapsWith ex (some (.Name x pos')) pos.line X.env = pure false := by rfl)
    (hf : X.fn x = true ∨ X.env.scope.names.lookup x = some .local := by first | exact .inl rfl | exact .inr rfl | assumption) : DS X cl e W (.Assign [.Name x pos'] ex pos) (sSet i f) :=
  PS.imp (ps_set hN hi hx h hs hf) fun Z σ H ⟨w, ρ, S, fs, p⟩ => fs.tG (PostS.expr p fs fun d S1 w1 v H1 _ f1 r1 p1 => p1 w1 _ H1 (Le.refl _) (f1.set r1))
def Tgt := BW.D → Env → Option Env
abbrev Tgts := List BW.D → Env → Option Env
def tgName (i : Nat) : Tgt := fun d ρ => some (ρ.set i (some (.dat d)))
def tgNil : Tgts := fun ds ρ => match ds with
  | [] => some ρ
  | _ => none
def tgCons (t : Tgt) (u : Tgts) : Tgts := fun ds ρ => match ds with
  | d :: r => (t d ρ).bind (u r)
  | _ => none
def tgTup (n : Nat) (u : Tgts) : Tgt := fun d ρ => match d with
  | .tup l => if l.length = n then u l ρ else none
  | _ => none
/-- a target keeps the state -/
def gT (b : Bool) (K : PySem.W.Frag) (cl : Str → Addr) (e : Pt) (t : Tgt) : TG := fun v σ H Q => ∃ w ρ S d ρ', Fs K cl e σ H w ρ S ∧ Rb b K w v d ∧ t d ρ = some ρ' ∧ ∀ σ', Fs K cl e σ' H w ρ' S → Q σ' H
def gTs (K : PySem.W.Frag) (cl : Str → Addr) (e : Pt) (t : Tgts) : TGs := fun vs σ H Q => ∃ w ρ S ds ρ', Fs K cl e σ H w ρ S ∧ RA K w vs ds ∧ t ds ρ = some ρ' ∧ ∀ σ', Fs K cl e σ' H w ρ' S → Q σ' H
theorem PG.imp {tg : Expr} {t t' : TG} (h : PG X tg t) (i : ∀ v σ H Q, t' v σ H Q → t v σ H Q) : PG X tg t' := ⟨fun pins s σ H v u Q I r q => h.run pins s σ H v u Q I r (i v σ H Q q)⟩
theorem PGs.imp {tg : List Expr} {t t' : TGs} (h : PGs X tg t) (i : ∀ v σ H Q, t' v σ H Q → t v σ H Q) : PGs X tg t' := ⟨fun pins s σ H v u Q I r q => h.run pins s σ H v u Q I r (i v σ H Q q)⟩
theorem dg_name {i : Nat} {x : Str} (hN : X.N.Nodup) (hi : X.N[i]? = some x) (hx : Loc X.env.scope x) (hf : X.fn x = true ∨ X.env.scope.names.lookup x = some .local := by first | exact .inl rfl | exact .inr rfl | assumption) : PG X (.Name x pos) (gT false X.K cl e (tgName i)) :=
  PG.imp (pg_name hN hi hx hf) fun v σ H Q ⟨w, ρ, S, d, ρ', f, r, ht, q⟩ => by cases ht; exact q _ (f.set r)
theorem dgs_nil : PGs X [] (gTs X.K cl e tgNil) := PGs.imp pgs_nil fun vs σ H Q ⟨w, ρ, S, ds, ρ', f, r, ht, q⟩ => by
  cases r with
  | nil => cases ht; exact ⟨rfl, q σ f⟩
  | cons => cases ht
theorem dgs_cons {ex : Expr} {es : List Expr} {t : Tgt} {u : Tgts} (h1 : PG X ex (gT false X.K cl e t)) (h2 : PGs X es (gTs X.K cl e u))
    (hs : (assignEach (ex :: es) X.env).map (·.2) = assign ex X.env :: (assignEach es X.env).map (·.2) := by rfl) : PGs X (ex :: es) (gTs X.K cl e (tgCons t u)) := PGs.imp (pgs_cons h1 h2 hs) fun vs σ H Q ⟨w, ρ, S, ds, ρ', f, r, ht, q⟩ => by
  cases r with
  | nil => cases ht
  | @cons v d vs ds r rr =>
    have ht : (t d ρ).bind (u ds) = some ρ' := ht
    cases h : t d ρ with
    | none => rw [h] at ht; cases ht
    | some ρ1 =>
      rw [h] at ht
      exact ⟨v, vs, rfl, w, ρ, S, d, ρ1, f, r, h, fun σ1 f1 => ⟨w, ρ1, S, ds, ρ', f1, rr, ht, q⟩⟩
theorem Rb.tup {b : Bool} {K : PySem.W.Frag} {w : Wd} {v : V} {l : List BW.D} (h : Rb b K w v (.tup l)) : ∃ a vs, v = .ref a ∧ SqT K w.F a vs ∧ RA K w vs l := by
  unfold Rb Rw at h
  split at h
  · rcases h with h | ⟨a, vs, l', h1, h2, h3, h4⟩
    · exact h.tup_inv
    · cases h2; exact ⟨a, vs, h1, h3, h4⟩
  · exact h.tup_inv
theorem dg_tup {b : Bool} {es : List Expr} {k n : Nat} {u : Tgts} (hc : X.calm = true) (h : PGs X es (gTs X.K cl e u)) (hn : (assignEach es X.env).length = n := by rfl) (hst : (assignEach es X.env).findIdx? (·.1) = none := by rfl) :
    PG X (.Tuple es k pos) (gT b X.K cl e (tgTup n u)) := PG.imp (pg_tup hc h hn hst) fun v σ H Q ⟨w, ρ, S, d, ρ', f, r, ht, q⟩ => by
  cases d <;> try (simp only [tgTup] at ht; cases ht)
  rename_i l
  simp only [tgTup] at ht
  split at ht
  · rename_i hl
    obtain ⟨a, vs, rfl, ha, ra⟩ := Rb.tup r
    exact ⟨a, vs, rfl, f.ok.sqT ha, by rw [ra.length]; exact hl, w, ρ, S, l, ρ', f, ra, ht, q⟩
  · cases ht
/-- target = e -/
def sAsg (t : Tgt) (f : Env → Store → Res BW.D) : Stm := fun ρ S => Out.of (f ρ S) ρ fun d S1 => match t d ρ with
  | some ρ' => .next ρ' S1
  | none => .bad
theorem ds_asg {tg ex : Expr} {t : Tgt} {f : Env → Store → Res BW.D} (h : DE X cl W ex f) (hg : PG X tg (gT false X.K cl e t)) (hs : swapsWithSole [tg] ex pos.line X.env = pure false := by rfl) (hw : swappedStores [tg] ex X.env = pure none := by rfl)
    (h1 : (assignEach [tg] X.env).map (·.2) = [assign tg X.env] := by rfl) : DS X cl e W (.Assign [tg] ex pos) (sAsg t f) :=
  PS.imp (ps_asg h hg hs hw h1) fun Z σ H ⟨w, ρ, S, fs, p⟩ => fs.tG (PostS.expr p fs fun d S1 w1 v H1 _ f1 r1 p1 => by
    split at p1
    · rename_i ρ' ht
      exact ⟨w1, ρ, S1, d, ρ', f1, r1, ht, fun σ' f' => p1 w1 σ' H1 (Le.refl _) f'⟩
    · exact p1.elim)
def Walks (b : Bool) (K : PySem.W.Frag) (cl : Str → Addr) (J : It) (w : Wd) (ds : List BW.D) : Prop := ∀ (i : Nat) (w1 : Wd) (S1 : Store) (H1 : Hp), Le w w1 → Ok K cl w1 S1 H1 →
  (∀ d, ds[i]? = some d → J.go i H1 ∧ ∀ x H2, J.yld i H1 x H2 → ∃ w2, Ext w1 H1 w2 H2 ∧ Ok K cl w2 S1 H2 ∧ Rb b K w2 x d) ∧ (ds.length = i → J.stop i H1)
def tI (b : Bool) (K : PySem.W.Frag) (cl : Str → Addr) (W : WX) (f : Env → Store → Res (List BW.D)) : TI := fun σ H Rr => ∃ w ρ S, Ok K cl w S H ∧ EnvR K w H σ ρ ∧ match f ρ S with
  | .ok ds S' => ∀ w' H' J, Ext w H w' H' → Ok K cl w' S' H' → Walks b K cl J w' ds → Rr J H'
  | .err c S' => ∀ w' H', Ext w H w' H' → Ok K cl w' S' H' → W (.ref (cl c)) none σ H'
  | .bad => False
abbrev DI (b : Bool) (X : Cx) (cl : Str → Addr) (W : WX) (tg iter : Expr) (f : Env → Store → Res (List BW.D)) : Prop := PI X tg iter (tI b X.K cl W f)
theorem PI.imp {tg iter : Expr} {t t' : TI} (h : PI X tg iter t) (i : ∀ σ H Q, t' σ H Q → t σ H Q) : PI X tg iter t' := ⟨fun pins s σ H Q I q => h.run pins s σ H Q I (i σ H Q q)⟩
def forL (t : Tgt) (g : Stm) : List BW.D → Stm
  | [], ρ, S => .next ρ S
  | x :: xs, ρ, S => match t x ρ with
    | none => .bad
    | some ρ1 => match g ρ1 S with
      | .next ρ2 S2 => forL t g xs ρ2 S2
      | .cont ρ2 S2 => forL t g xs ρ2 S2
      | .brk ρ2 S2 => .next ρ2 S2
      | .ret d S2 => .ret d S2
      | .err c ρ2 S2 => .err c ρ2 S2
      | .bad => .bad
def sFor (fi : Env → Store → Res (List BW.D)) (t : Tgt) (g : Stm) : Stm := fun ρ S => Out.of (fi ρ S) ρ fun ds S1 => forL t g ds ρ S1
theorem ds_for {b : Bool} {tg iter : Expr} {body : List Stmt} {fi : Env → Store → Res (List BW.D)} {t : Tgt} {g : Stm} (hp : PassesOwn (model X.prog X.w) X.A X.env X.xe) (hc : X.calm = true) (hi : DI b X cl W tg iter fi) (hg : PG X tg (gT b X.K cl e t)) (hb : DSs X cl e W body g)
    (hs : ∀ x, foldedSetIterable iter X.env x = pure x := by intro _; rfl) : DS X cl e W (.For tg iter body [] pos) (sFor fi t g) := by
  refine PS.imp (ps_for hp hc hi hg hb hs) fun Z σ H ⟨w, ρ, S, fs, p⟩ => ⟨w, ρ, S, fs.ok, fs.env, ?_⟩
  unfold sFor at p
  cases hr : fi ρ S with
  | bad => rw [hr] at p; exact p
  | err c S1 => rw [hr] at p; exact fun w1 H1 e1 o1 => p w1 σ H1 e1.le (fs.on e1 o1)
  | ok ds S1 =>
    rw [hr] at p
    have p : PostS X.K cl e W w Z (forL t g ds ρ S1) := p
    intro w1 H1 J e1 o1 wk
    have f1 := fs.on e1 o1
    refine ⟨fun i m σ' H' => ∃ w' ρ' S', Le w1 w' ∧ Fs X.K cl e σ' H' w' ρ' S' ∧ m = ds.length - i ∧ i ≤ ds.length ∧ PostS X.K cl e W w' Z (forL t g (ds.drop i) ρ' S'), ⟨ds.length, w1, ρ, S1, Le.refl _, f1, rfl, Nat.zero_le _, PostS.le e1.le p⟩, ?_⟩
    rintro i m σ' H' ⟨w', ρ', S', l', f', rfl, hle, p'⟩
    obtain ⟨hgo, hstop⟩ := wk i w' S' H' l' f'.ok
    by_cases hi : i < ds.length
    · have hd : ds[i]? = some ds[i] := by simp [hi]
      rw [List.drop_eq_getElem_cons hi] at p'
      simp only [forL] at p'
      obtain ⟨go, yld⟩ := hgo _ hd
      refine .inr ⟨go, fun σ2 H2 => ∃ w2 ρ2 S2, Le w1 w2 ∧ Fs X.K cl e σ2 H2 w2 ρ2 S2 ∧ PostS X.K cl e W w2 Z (forL t g (ds.drop (i + 1)) ρ2 S2), fun σ2 H2 ⟨w2, ρ2, S2, l2, f2, p2⟩ => ⟨ds.length - (i + 1), by omega, w2, ρ2, S2, l2, f2, rfl, hi, p2⟩, fun x H2 y => ?_⟩
      obtain ⟨w2, e2, o2, r2⟩ := yld x H2 y
      have f2 := f'.on e2 o2
      have l2 := l'.trans e2.le
      have p2 := PostS.le e2.le p'
      cases ht : t ds[i] ρ' with
      | none => rw [ht] at p2; exact p2.elim
      | some ρ1 =>
        rw [ht] at p2
        refine ⟨w2, ρ', S', ds[i], ρ1, f2, r2, ht, fun σ3 f3 => ⟨w2, ρ1, S', f3, ?_⟩⟩
        simp only at p2
        cases hg : g ρ1 S' with
        | next ρ4 S4 =>
          rw [hg] at p2
          exact fun w4 σ4 H4 l4 f4 => ⟨w4, ρ4, S4, l2.trans l4, f4, PostS.le l4 p2⟩
        | cont ρ4 S4 =>
          rw [hg] at p2
          exact fun w4 σ4 H4 l4 f4 => ⟨w4, ρ4, S4, l2.trans l4, f4, PostS.le l4 p2⟩
        | brk ρ4 S4 => rw [hg] at p2; exact p2
        | ret d S4 => rw [hg] at p2; exact p2
        | err c ρ4 S4 => rw [hg] at p2; exact p2
        | bad => rw [hg] at p2; exact p2
    · exact .inl ⟨hstop (by omega), by
        rw [List.drop_eq_nil_of_le (Nat.le_of_not_lt hi)] at p'
        exact p' w' σ' H' (Le.refl _) f'⟩
end
end BW
namespace BW
open PySem PySem.Spec PyProof.Rows L2
set_option maxHeartbeats 1000000 in
theorem meets_enum1 {v : Value} {o : Obj} {H : Heap → Prop} (B : Begins v o H) :
    Meets (Builtin.«enumerate.__new__» ⟨[.type "enumerate", v], []⟩) (fun _ R s => H s.heap ∧
      R (.ok (.ret (.ref (s.heap.push o).objs.size))) { s with heap := (s.heap.push o).push { cls := .type "enumerate", data := .fields #[.none, .bool false, .ref s.heap.objs.size, rawInt 0, .none, .none] } }) :=
  .of_wp fun prog w A R s h => by
    obtain ⟨hp, g, d, tk, os⟩ := s; obtain ⟨h1, h⟩ := h
    have hsub := sub_enumerate
    have q1 : ∀ {A' : Around} {E : Value → Shared → Prop} {Q : Value → Shared → Prop}, Q (.ref hp.objs.size) ⟨hp.push o, g, d, tk, os⟩ → wpAny (model prog w) A' (pyIter v) Q E ⟨hp, g, d, tk, os⟩ :=
      fun q => B.iter prog w _ _ ⟨hp, g, d, tk, os⟩ _ h1 q
    wp_walk using q1
    refine wpAny_stack_any fun st => wpAny_pure ?_
    split
    · rename_i c _ _ _ _ _
      cases (c == Value.type "enumerate")
      · wp_walk using q1
        exact ⟨_, rfl, h⟩
      · wp_walk using q1
        exact ⟨_, rfl, h⟩
    · wp_walk using q1
      exact ⟨_, rfl, h⟩
theorem enum_begins1 {prog : Program} {w : World} {A : Around} {E : Value → Shared → Prop} {s : Shared} {v : Value} {o : Obj} {H : Heap → Prop} {Q : Value → Shared → Prop} (B : Begins v o H) (h1 : H s.heap)
    (h : ∀ h', IsEnum h' (s.heap.objs.size + 1) s.heap.objs.size 0 .none → h'.get? s.heap.objs.size = some o → h'.objs.size = s.heap.objs.size + 2 →
      (∀ b o, s.heap.get? b = some o → h'.get? b = some o) → Q (.ref (s.heap.objs.size + 1)) { s with heap := h' }) :
    wpAny (model prog w) A (call (.type "enumerate") [v]) Q E s := by
  refine callType_new F.called_enumerate (by decide) (F.typeCall_enumerate_1 _) (F.newCall_enumerate_1 _) (fun obj => F.args_object_init_2 obj _) F.entry_enumerate_new
    (meets_enum1 B) ⟨h1, ?_⟩
  have hz : (s.heap.push o).objs.size = s.heap.objs.size + 1 := Heap.size_push ..
  show _ ∧ _
  rw [hz]
  have he : IsEnum ((s.heap.push o).push { cls := .type "enumerate", data := .fields #[.none, .bool false, .ref s.heap.objs.size, rawInt 0, .none, .none] }) (s.heap.objs.size + 1) s.heap.objs.size 0 .none := by
    have := Heap.get?_push_size (s.heap.push o) (o := { cls := .type "enumerate", data := .fields #[.none, .bool false, .ref s.heap.objs.size, rawInt 0, .none, .none] }) rfl
    rw [hz] at this; exact this
  refine ⟨⟨_, he, rfl⟩, h _ he (Heap.get?_push_of_some _ (Heap.get?_push_size _ B.free)) (by rw [Heap.size_push, hz]) fun b o x => Heap.get?_push_of_some _ (Heap.get?_push_of_some _ x)⟩
def IteT (K : PySem.W.Frag) (a : Addr) : It :=
  ⟨fun i H => ∃ (xs : List V) (x : V), SqT K H a xs ∧ xs[i]? = some x, fun i H v H' => ∃ T x, v = .ref T ∧ H T = none ∧ H' = upd H T (.tup [.int (i : Nat), x]) ∧ ∀ xs, SqT K H a xs → xs[i]? = some x, fun i H => ∃ xs : List V, SqT K H a xs ∧ xs.length = i⟩
theorem turn_enumT {P : Program} {w : World} {K : PySem.W.Frag} {elts : List Expr} {kk : Nat} {tpos : Pos} (a e it : Addr) :
    Turn P w K (.Tuple elts kk tpos) (IteT K a) [e, it] e (fun i h => (∃ old, IsEnum h e it ((i : Nat) : Int) old) ∧ h.IsTupleIter it a i ∧ e ≠ it ∧ a ≠ it ∧ e ≠ a) where
  mem := by simp
  obj := fun i h st b hb => by
    obtain ⟨⟨old, he⟩, ⟨o, ho, hc, hd⟩, _⟩ := st
    have e' : b = e ∨ b = it := by simpa using hb
    rcases e' with z | z
    · rw [z]; exact ⟨_, he, fun v q => nomatch q⟩
    · rw [z]; exact ⟨o, ho, fun v q => by rw [hd] at q; cases q⟩
  keep := fun i h h' st k => let ⟨⟨old, he⟩, hi, hne⟩ := st; ⟨⟨old, k e (by simp) _ he⟩, hi.at fun o q => k it (by simp) o q, hne⟩
  item := by
    intro X hP hw hK hc i pins s σ H E I hf st hg
    subst hP hw hK
    obtain ⟨⟨old, he⟩, hit, hne, hai, hea⟩ := st
    obtain ⟨xs, x, hq, hx⟩ := hg
    obtain ⟨its, rv, p, hz⟩ := I.tuple hq
    obtain ⟨u, hu, ru⟩ := rv.get hx
    have hel : e < s.heap.objs.size := Heap.lt_size he
    have hil : it < s.heap.objs.size := by obtain ⟨_, q, _⟩ := hit; exact Heap.lt_size q
    have hdr : i < its.toArray.size := by
      have := (List.getElem?_eq_some_iff.mp hu).1
      simpa using this
    refine wpAny_pyNext_enum_itemD (Draws.tuple (A := X.A.in1) (show X.A.in1.handled = none from I.ok.hd hc) it a hai its.toArray) he ⟨hit, p⟩ hdr hne (by simp [hne, hea]) fun y h' tk hy ho hst' hT hsz hk => ?_
    have ey : y = u := by
      have hy : its.toArray[i]? = some y := hy
      have : its[i]? = some y := by simpa using hy
      rw [hu] at this; exact (Option.some.inj this).symm
    subst ey
    refine ⟨_, rfl, wpAny_letOwnedTupleGo_enum (s := { s with heap := h', toks := tk + 1 }) ho fun h'' he' sb => ?_⟩
    have hT2 : h''.get? s.heap.objs.size = some { cls := .type "tuple", data := .seq #[.int i tk, y] } := (sb.2 _ (Nat.ne_of_gt hel)).trans hT
    have new : ObjOk X.prog X.w (upd H s.heap.objs.size (.tup [.int (i : Nat), x])) h'' s.heap.objs.size (.tup [.int (i : Nat), x]) :=
      ⟨by show 2 ≤ sizeLine; decide, [.int i tk, y], .cons ⟨_, rfl⟩ (.cons ru .nil), ⟨_, hT2, rfl, _, rfl⟩⟩
    have I1 : Inv X pins σ (upd H s.heap.objs.size (.tup [.int (i : Nat), x])) { s with heap := h'', toks := tk + 1 } :=
      I.turnedNew (ch := [e, it]) (fun b ob hb q => (sb.2 b (fun z => hb (by simp [z]))).trans (hk b ob (fun z => hb (by simp [z])) (fun z => hb (by simp [z])) q)) hf (Nat.le_refl _) new
    refine ⟨.ref s.heap.objs.size, _, I1, rfl, ⟨_, x, rfl, I.hok.fresh (Nat.le_refl _), rfl, fun ys hy => by rw [I.tuple_inj hy hq]; exact hx⟩, ⟨⟨y, ?_⟩, hst'.1.at fun o q => (sb.2 it (Ne.symm hne)).trans q, hne, hai, hea⟩, fun b hb => ?_⟩
    · have e1 : ((i + 1 : Nat) : Int) = (i : Int) + 1 := by omega
      rw [e1]; exact he'
    · have hb' : b < s.heap.objs.size := by
        have e' : b = e ∨ b = it := by simpa using hb
        rcases e' with z | z
        · rw [z]; exact hel
        · rw [z]; exact hil
      rw [upd_ne (Nat.ne_of_lt hb')]
      exact (hf b hb).1
  done := by
    intro X hP hw hK hc i pins s σ H E I hf st hg
    subst hP hw hK
    obtain ⟨⟨old, he⟩, hit, hne, hai, hea⟩ := st
    obtain ⟨xs, hq, hx⟩ := hg
    obtain ⟨its, rv, p, hz⟩ := I.tuple hq
    obtain ⟨f0, f1, f2, f3, f4, f5⟩ := hf it (by simp)
    have hl := rv.length
    have hs : its.toArray.size = i := by simp; omega
    exact wpAny_pyNext_enum_endD (n := its.toArray.size) (Draws.tuple (A := X.A.in1) (show X.A.in1.handled = none from I.ok.hd hc) it a hai its.toArray) he ⟨by rw [hs]; exact hit, p⟩ fun h' eb => ⟨rfl, I.turned (t' := s.toks) (fun b o hb q => eb b o hb q) f0 f1 f3 f4 f5⟩
  self := fun A i s Q E st h => let ⟨⟨_, he⟩, _⟩ := st; wpAny_pyIter_enum he h
def iEnumT (K : PySem.W.Frag) (ta : TA) : TI := fun σ H R => ta σ H fun vs H1 => ∃ a xs, vs = [.ref a] ∧ SqT K H1 a xs ∧ R (IteT K a) H1
theorem pi_enumT {X : Cx} {e : Expr} {ta : TA} {p pos tpos : Pos} {elts : List Expr} {kk : Nat} (hg : Gl X "enumerate") (hm : X.mg "enumerate" = none) (ha : PA X [e] ta) (hs : starEach [e] X.env = [(false, eval e X.env)] := by rfl) :
    PI X (.Tuple elts kk tpos) (.Call (.Name "enumerate" p) [e] [] pos) (iEnumT X.K ta) := by
  refine ⟨fun pins s σ H R I h => ?_⟩
  refine Call_ (ld_blt I hg hm boot_enumerate (PyProof.Rows.callWith_type1 (thn (ha.run pos pins s σ H _ I h) fun us s1 ⟨vs, H1, I1, r1, q1⟩ => ?_) hs rfl))
  obtain ⟨a, xs, ex, hq, q⟩ := q1
  subst ex
  cases r1 with
  | cons r rr =>
    cases rr
    cases r
    obtain ⟨its, rv, p', hz⟩ := I1.tuple hq
    have hal : a < s1.heap.objs.size := p'.lt
    refine enum_begins1 (begins_tuple a its.toArray) p' fun h' he hit hsz hk => wpAny_pyIter_enum he ?_
    have I2 : Inv X pins σ H1 { s1 with heap := h' } := I1.kept (t' := s1.toks) hk
    refine ⟨s1.heap.objs.size + 1, [s1.heap.objs.size + 1, s1.heap.objs.size], _, _, H1, rfl, I2, turn_enumT a (s1.heap.objs.size + 1) s1.heap.objs.size, ⟨⟨.none, he⟩, ⟨_, hit, rfl, rfl⟩, Nat.succ_ne_self _, Nat.ne_of_lt hal, Nat.ne_of_gt (Nat.lt_succ_of_lt hal)⟩, fun b hb => ?_, q⟩
    have e' : b = s1.heap.objs.size + 1 ∨ b = s1.heap.objs.size := by simpa using hb
    have hle : s1.heap.objs.size ≤ b := by
      rcases e' with z | z
      · rw [z]; exact Nat.le_add_right _ _
      · rw [z]; exact Nat.le_refl _
    exact I1.fpOk hle (I1.hok.fresh hle)
end BW
namespace BW
open PySem L2
section
variable {K : PySem.W.Frag} {cl : Str → Addr} {W : WX} {σ : L2.St} {w w' : Wd} {S : Store} {H H' : Hp} {ρ : Env}
theorem Ext.mut {a : Addr} {o : HO} (x : Ext w H w' H') (h : H a = none) : Ext w H w' (upd H' a o) := by
  refine ⟨x.n, x.k, x.F, fun b u hb hk => ?_, fun b u hb => ?_, x.newF, x.newK, fun b q u hb => by rw [upd_ne (ne_of_none hb h)]; exact x.frz b q u hb⟩
  · rw [upd_ne (ne_of_none hb h)]; exact x.keep b u hb hk
  · rw [upd_ne (ne_of_none hb h)]; exact x.there b u hb
theorem Ok.mut {a : Addr} {o : HO} (k : Ok K cl w S H) (h : Hid w a) : Ok K cl w S (upd H a o) := by
  refine ⟨k.len, fun b u hb => ?_, fun i c hc => ?_, k.inj⟩
  · have ne : b ≠ a := by intro e; subst e; rw [h.nF] at hb; cases hb
    rw [upd_ne ne]; exact k.sub b u hb
  · obtain ⟨h1, h2⟩ := k.cell i c hc
    have hi : i < w.n := by rw [k.len]; exact (List.getElem?_eq_some_iff.mp hc).1
    exact ⟨h1, CellOk.mono ⟨Nat.le_refl _, fun _ _ => rfl, Same.refl _⟩ (fun v hv => by rw [upd_ne (h.nK i hi)]; exact hv) h2⟩
theorem Ok.hid (k : Ok K cl w S H) {a : Addr} (h : H a = none) : Hid w a := by
  refine ⟨?_, fun i hi e => ?_⟩
  · cases q : w.F a with
    | none => rfl
    | some u => rw [k.sub a u q] at h; cases h
  · have hi' : i < S.length := by rw [← k.len]; exact hi
    obtain ⟨_, h2⟩ := k.cell i S[i] (by simp [hi'])
    obtain ⟨u, hu⟩ := h2.there
    rw [e, h] at hu; cases hu
theorem Ok.freeze {a : Addr} {o : HO} (k : Ok K cl w S H) (h : Hid w a) (ha : H a = some o) : Ok K cl (w.lay a o) S H := by
  have le : Le w (w.lay a o) := ⟨Nat.le_refl _, fun _ _ => rfl, fun b u hb => by
    show upd w.F a o b = some u
    rw [upd_ne (ne_of_none hb h.nF)]; exact hb⟩
  refine ⟨k.len, fun b u hb => ?_, fun i c hc => ?_, k.inj⟩
  · have hb : upd w.F a o b = some u := hb
    by_cases e : b = a
    · subst e; rw [upd_same] at hb; cases hb; exact ha
    · rw [upd_ne e] at hb; exact k.sub b u hb
  · obtain ⟨h1, h2⟩ := k.cell i c hc
    have hi : i < w.n := by rw [k.len]; exact (List.getElem?_eq_some_iff.mp hc).1
    refine ⟨?_, CellOk.mono le (fun v hv => hv) h2⟩
    show upd w.F a o (w.k i) = none
    rw [upd_ne (h.nK i hi)]; exact h1
theorem Le.lay {a : Addr} {o : HO} (h : w.F a = none) : Le w (w.lay a o) := ⟨Nat.le_refl _, fun _ _ => rfl, fun b u hb => by
    show upd w.F a o b = some u
    rw [upd_ne (ne_of_none hb h)]; exact hb⟩
theorem Ext.freeze {a : Addr} {o : HO} (x : Ext w H w' H') (h : w'.F a = none) (ha : H a = none) : Ext w H (w'.lay a o) H' := by
  refine ⟨x.n, x.k, x.F.trans (Le.lay h).F, x.keep, x.there, fun b u hb => ?_, x.newK, x.frz⟩
  have hb : upd w'.F a o b = some u := hb
  by_cases e : b = a
  · subst e; exact .inr ha
  · rw [upd_ne e] at hb; exact x.newF b u hb
theorem EnvR.setD {i : Nat} {v : V} {d : D} (f : EnvR K w H σ ρ) (r : R K w v d) : EnvR K w H (σ.set i (some v)) (ρ.set i (some (.dat d))) := by
  refine ⟨by simp [f.len], fun j s hs => ?_, fun j l s t u hjl hs ht os ot hj hl => ?_⟩
  · by_cases e : j = i
    · subst e
      have hj : j < ρ.length := by
        have := (List.getElem?_eq_some_iff.mp hs).1
        simpa using this
      rw [List.getElem?_set_self hj] at hs
      cases hs
      exact ⟨v, by rw [List.getElem?_set_self (by rw [f.len]; exact hj)], r⟩
    · rw [List.getElem?_set_ne (Ne.symm e)] at hs ⊢
      exact f.slot j s hs
  · by_cases e : j = i
    · subst e
      by_cases hj : j < ρ.length
      · rw [List.getElem?_set_self hj] at hs; cases hs; cases os
      · rw [List.getElem?_eq_none (by simpa using Nat.le_of_not_lt hj)] at hs; cases hs
    · by_cases e2 : l = i
      · subst e2
        by_cases hj : l < ρ.length
        · rw [List.getElem?_set_self hj] at ht; cases ht; cases ot
        · rw [List.getElem?_eq_none (by simpa using Nat.le_of_not_lt hj)] at ht; cases ht
      · rw [List.getElem?_set_ne (Ne.symm e)] at hs hj
        rw [List.getElem?_set_ne (Ne.symm e2)] at ht hl
        exact f.sep j l s t u hjl hs ht os ot hj hl
theorem EnvR.setN {i : Nat} (f : EnvR K w H σ ρ) : EnvR K w H (σ.set i none) (ρ.set i none) := by
  have ne : ∀ {j : Nat} {s : Slot}, (ρ.set i none)[j]? = some (some s) → j ≠ i ∧ ρ[j]? = some (some s) := fun {j s} hs => by
    by_cases e : j = i
    · subst e
      by_cases hj : j < ρ.length
      · rw [List.getElem?_set_self hj] at hs; cases hs
      · rw [List.getElem?_eq_none (by simpa using Nat.le_of_not_lt hj)] at hs; cases hs
    · rw [List.getElem?_set_ne (Ne.symm e)] at hs; exact ⟨e, hs⟩
  refine ⟨by simp [f.len], fun j s hs => ?_, fun j l s t u hjl hs ht os ot hj hl => ?_⟩
  · obtain ⟨e, hs⟩ := ne hs
    rw [List.getElem?_set_ne (Ne.symm e)]
    exact f.slot j s hs
  · obtain ⟨e, hs⟩ := ne hs
    obtain ⟨e2, ht⟩ := ne ht
    rw [List.getElem?_set_ne (Ne.symm e)] at hj
    rw [List.getElem?_set_ne (Ne.symm e2)] at hl
    exact f.sep j l s t u hjl hs ht os ot hj hl
def wipeE (ρ : Env) : List Nat → Env
  | [] => ρ
  | v :: vs => (wipeE ρ vs).set v none
theorem EnvR.wipe (f : EnvR K w H σ ρ) : ∀ vs : List Nat, EnvR K w H (L2.wipe σ vs) (wipeE ρ vs)
  | [] => f
  | v :: vs => (EnvR.wipe f vs).setN
theorem wipe_get (σ : L2.St) : ∀ (vs : List Nat) (i : Nat), (L2.wipe σ vs)[i]? = if i ∈ vs ∧ i < σ.length then some none else σ[i]?
  | [], i => by simp [L2.wipe]
  | v :: vs, i => by
    unfold L2.wipe
    by_cases e : i = v
    · subst e
      by_cases hi : i < σ.length
      · rw [List.getElem?_set_self (by rw [wipe_length]; exact hi), if_pos ⟨by simp, hi⟩]
      · rw [if_neg (fun h => hi h.2), List.getElem?_eq_none (by rw [List.length_set, wipe_length]; exact Nat.le_of_not_lt hi), List.getElem?_eq_none (Nat.le_of_not_lt hi)]
    · rw [List.getElem?_set_ne (Ne.symm e), wipe_get σ vs i]
      simp [e]
theorem wipe_same {σ σ2 : L2.St} {vs : List Nat} (hl : σ2.length = σ.length) (h : ∀ i, i ∉ vs → σ2[i]? = (L2.wipe σ vs)[i]?) : L2.wipe σ2 vs = L2.wipe σ vs := by
  refine List.ext_getElem? fun i => ?_
  rw [wipe_get, wipe_get, hl]
  by_cases hi : i ∈ vs
  · by_cases hn : i < σ.length
    · rw [if_pos ⟨hi, hn⟩, if_pos ⟨hi, hn⟩]
    · rw [if_neg (fun h => hn h.2), if_neg (fun h => hn h.2), List.getElem?_eq_none (by omega), List.getElem?_eq_none (by omega)]
  · rw [if_neg (fun h => hi h.1), if_neg (fun h => hi h.1), h i hi, wipe_get, if_neg (fun h => hi h.1)]
end
section
variable (K : PySem.W.Frag) (cl : Str → Addr)
def PostL (W : WX) (σ : L2.St) (w : Wd) (H : Hp) (r : Res (List D)) (Q : VK) : Prop := match r with
  | .ok l S' => ∀ w' a vs H', Ext w H w' H' → Ok K cl w' S' H' → H a = none → H' a = some (.lst vs) → Hid w' a → RA K w' vs l → Q (.ref a) H'
  | .err c S' => ∀ w' H', Ext w H w' H' → Ok K cl w' S' H' → W (.ref (cl c)) none σ H'
  | .bad => False
def tL (W : WX) (f : Env → Store → Res (List D)) : TE := fun σ H Q => ∃ w ρ S, Ok K cl w S H ∧ EnvR K w H σ ρ ∧ PostL K cl W σ w H (f ρ S) Q
end
abbrev DL (X : Cx) (cl : Str → Addr) (W : WX) (e : Expr) (f : Env → Store → Res (List D)) : Prop := PE X e (tL X.K cl W f)
def fFrz (f : Env → Store → Res (List D)) : Env → Store → Res D := fun ρ S => (f ρ S).bind fun l S1 => .ok (.lst l) S1
theorem postL_frz {K : PySem.W.Frag} {cl : Str → Addr} {W : WX} {σ : L2.St} {w : Wd} {H : Hp} {r : Res (List D)} {Q : VK} (h : Post K cl W σ (R K) w H (r.bind fun l S1 => .ok (.lst l) S1) Q) : PostL K cl W σ w H r Q := by
  cases r with
  | ok l S => exact fun w' a vs H' x o ha h' hi ra => h _ _ _ (x.freeze hi.nF ha) (o.freeze hi h') (.lst upd_same (ra.mono (Le.lay hi.nF)))
  | err c S => exact h
  | bad => exact h
theorem DL.de {X : Cx} {cl : Str → Addr} {W : WX} {e : Expr} {f : Env → Store → Res (List D)} (h : DL X cl W e f) : DE X cl W e (fFrz f) :=
  PE.imp h fun σ H Q ⟨w, ρ, S, o, n, p⟩ => ⟨w, ρ, S, o, n, postL_frz p⟩
section
variable {X : Cx} {cl : Str → Addr} {W : WX} {tg iter : Expr}
theorem PI.or {t t' : TI} (h : PI X tg iter t) (h' : PI X tg iter t') : PI X tg iter (fun σ H Q => t σ H Q ∨ t' σ H Q) := ⟨fun pins s σ H Q I q => q.elim (h.run pins s σ H Q I) (h'.run pins s σ H Q I)⟩
def fItems (f : Env → Store → Res D) : Env → Store → Res (List D) := fun ρ S => (f ρ S).bind fun d S1 => match d with
  | .lst l => .ok l S1
  | .tup l => .ok l S1
  | .str x => .ok (x.cps.toList.map fun c => .str ⟨#[c]⟩) S1
  | .dic kvs => .ok (kvs.map fun kv => kD kv.1) S1
  | _ => .bad
theorem walks_list {K : PySem.W.Frag} {w : Wd} {a : Addr} {vs : List V} {l : List D} (h : w.F a = some (.lst vs)) (r : RA K w vs l) : Walks false K cl (Itl K a) w l := by
  intro i w1 S1 H1 le ok
  have sq : SqL K H1 a vs := ok.sqL (le.F _ _ h)
  refine ⟨fun d hd => ?_, fun hl => ⟨vs, sq, by rw [r.length]; exact Nat.le_of_eq hl⟩⟩
  obtain ⟨v, hv, rv⟩ := r.get hd
  refine ⟨⟨vs, v, sq, hv⟩, fun x H2 ⟨e, hx⟩ => ?_⟩
  subst e
  have := hx vs sq
  rw [hv] at this; cases this
  exact ⟨w1, Ext.refl _ _, ok, rv.mono le⟩
theorem walks_tup {K : PySem.W.Frag} {w : Wd} {a : Addr} {vs : List V} {l : List D} (h : SqT K w.F a vs) (r : RA K w vs l) : Walks false K cl (Itt K a) w l := by
  intro i w1 S1 H1 le ok
  have sq : SqT K H1 a vs := ok.sqT (SqT.mono le.F h)
  refine ⟨fun d hd => ?_, fun hl => ⟨vs, sq, by rw [r.length]; exact Nat.le_of_eq hl⟩⟩
  obtain ⟨v, hv, rv⟩ := r.get hd
  refine ⟨⟨vs, v, sq, hv⟩, fun x H2 ⟨e, hx⟩ => ?_⟩
  subst e
  have := hx vs sq
  rw [hv] at this; cases this
  exact ⟨w1, Ext.refl _ _, ok, rv.mono le⟩
theorem walks_str {K : PySem.W.Frag} {w : Wd} (x : Str) : Walks false K cl (Its x) w (x.cps.toList.map fun c => .str ⟨#[c]⟩) := by
  intro i w1 S1 H1 le ok
  refine ⟨fun d hd => ?_, fun hl => by rw [List.length_map, Array.length_toList] at hl; exact Nat.le_of_eq hl⟩
  rw [List.getElem?_map] at hd
  cases hc : x.cps.toList[i]? with
  | none => rw [hc] at hd; cases hd
  | some c =>
    rw [hc] at hd; cases hd
    have hc' : x.cps[i]? = some c := by simpa using hc
    refine ⟨(Array.getElem?_eq_some_iff.mp hc').1, fun v H2 ⟨e, c2, h2, e2⟩ => ?_⟩
    subst e e2
    rw [hc'] at h2; cases h2
    exact ⟨w1, Ext.refl _ _, ok, .str _⟩
theorem walks_keys {K : PySem.W.Frag} {w : Wd} {a : Addr} {q : Obj} {vs : List (Key × V)} {l : List (Key × D)} (h : w.F a = some (.frz q (.dK vs))) (r : RK K w vs l) : Walks false K cl (Itk a q vs) w (l.map fun kv => kD kv.1) := by
  intro i w1 S1 H1 le ok
  have hd := ok.sub _ _ (le.F _ _ h)
  refine ⟨fun d hi => ?_, fun hl => ⟨hd, by rw [r.length, ← hl]; simp⟩⟩
  rw [List.getElem?_map] at hi
  cases hv : l[i]? with
  | none => rw [hv] at hi; cases hi
  | some kv =>
    rw [hv] at hi
    cases hi
    have il : i < l.length := (List.getElem?_eq_some_iff.mp hv).1
    refine ⟨⟨hd, by rw [r.length]; exact il⟩, fun x H2 y => ?_⟩
    obtain ⟨rfl, k, v, hk, rfl⟩ := y
    refine ⟨w1, Ext.refl _ _, ok, ?_⟩
    have e1 : (vs.map (·.1))[i]? = some k := by rw [List.getElem?_map, hk]; rfl
    have e2 : (l.map (·.1))[i]? = some kv.1 := by rw [List.getElem?_map, hv]; rfl
    rw [r.keys, e2] at e1
    cases e1
    exact kD_R _
theorem di_seq {f : Env → Store → Res D} (h : DE X cl W iter f) : DI false X cl W tg iter (fItems f) := by
  refine PI.imp (PI.or (pi_list h) (PI.or (pi_tup h) (PI.or (pi_str h) (pi_keys h)))) fun σ H Q ⟨w, ρ, S, o, n, p⟩ => ?_
  unfold fItems at p
  cases hf : f ρ S with
  | bad => rw [hf] at p; exact p.elim
  | err c S1 =>
    rw [hf] at p
    refine .inl (tG.at o n ?_)
    rw [hf]
    exact p
  | ok d S1 =>
    rw [hf] at p
    simp only [Res.bind] at p
    cases d with
    | lst l =>
      refine .inl (tG.at o n ?_)
      rw [hf]
      intro w1 v H1 e1 o1 r1
      obtain ⟨a, vs, rfl, ha, ra⟩ := r1.lst_inv
      exact ⟨a, rfl, ⟨vs, o1.sqL ha⟩, p w1 H1 _ e1 o1 (walks_list ha ra)⟩
    | tup l =>
      refine .inr (.inl (tG.at o n ?_))
      rw [hf]
      intro w1 v H1 e1 o1 r1
      obtain ⟨a, vs, rfl, ha, ra⟩ := r1.tup_inv
      exact ⟨a, rfl, ⟨vs, o1.sqT ha⟩, p w1 H1 _ e1 o1 (walks_tup ha ra)⟩
    | str x =>
      refine .inr (.inr (.inl (tG.at o n ?_)))
      rw [hf]
      intro w1 v H1 e1 o1 r1
      cases r1
      exact ⟨x, rfl, p w1 H1 _ e1 o1 (walks_str x)⟩
    | dic l =>
      refine .inr (.inr (.inr (tG.at o n ?_)))
      rw [hf]
      intro w1 v H1 e1 o1 r1
      obtain ⟨a, q, vs, rfl, ha, ra⟩ := r1.dic_frz
      exact ⟨a, q, rfl, .inl ⟨vs, o1.sub _ _ ha, p w1 H1 _ e1 o1 (walks_keys ha ra)⟩⟩
    | _ => exact p.elim
/-- range -/
def rngD (lo : Int) (n : Nat) : List D := (List.range n).map fun i => .int (lo + (i : Nat))
theorem walks_rng {K : PySem.W.Frag} {w : Wd} (lo : Int) (n : Nat) : Walks false K cl (Itr lo n) w (rngD lo n) := by
  intro i w1 S1 H1 le ok
  refine ⟨fun d hd => ?_, fun hl => by unfold rngD at hl; rw [List.length_map, List.length_range] at hl; exact Nat.le_of_eq hl⟩
  unfold rngD at hd
  rw [List.getElem?_map] at hd
  by_cases hi : i < n
  · rw [List.getElem?_range hi] at hd
    cases hd
    exact ⟨hi, fun v H2 ⟨e, e2⟩ => by subst e e2; exact ⟨w1, Ext.refl _ _, ok, .int _⟩⟩
  · rw [List.getElem?_eq_none (by simpa using Nat.le_of_not_lt hi)] at hd
    cases hd
/-- a source that evaluates its arguments first -/
def fI (k : List D → Option (List D)) (fa : Env → Store → Res (List D)) : Env → Store → Res (List D) := fun ρ S => (fa ρ S).bind fun ds S1 => Res.of S1 (k ds)
theorem tI_args {fa : Env → Store → Res (List D)} {k : List D → Option (List D)} {σ : L2.St} {H : Hp} {Q : It → Hp → Prop} {Q1 : List V → Hp → Prop} {b : Bool} (h : tI b X.K cl W (fI k fa) σ H Q)
    (hk : ∀ ds l S1 w1 vs H1, Ok X.K cl w1 S1 H1 → RA X.K w1 vs ds → k ds = some l → (∀ J, Walks b X.K cl J w1 l → Q J H1) → Q1 vs H1) : tG X.K cl W (RA X.K) fa σ H Q1 := by
  obtain ⟨w, ρ, S, o, n, p⟩ := h
  refine tG.at o n ?_
  unfold fI at p
  cases hf : fa ρ S with
  | bad => rw [hf] at p; exact p
  | err c S1 => rw [hf] at p; exact p
  | ok ds S1 =>
    rw [hf] at p
    intro w1 vs H1 e1 o1 r1
    cases hkk : k ds with
    | none => simp only [Res.bind, hkk, Res.of] at p
    | some l =>
      simp only [Res.bind, hkk, Res.of] at p
      exact hk ds l S1 w1 vs H1 o1 r1 hkk fun J wk => p w1 H1 J e1 o1 wk
def kRng1 : List D → Option (List D)
  | [.int j] => if -(2 ^ 62) ≤ j ∧ j < 2 ^ 62 then some (rngD 0 j.toNat) else none
  | _ => none
def kRng2 : List D → Option (List D)
  | [.int i, .int j] => if -(2 ^ 62) ≤ i ∧ i < 2 ^ 62 ∧ -(2 ^ 62) ≤ j ∧ j < 2 ^ 62 then some (rngD i (j - i).toNat) else none
  | _ => none
theorem ra1 {K : PySem.W.Frag} {w : Wd} {vs : List V} {d : D} (r : RA K w vs [d]) : ∃ v, vs = [v] ∧ R K w v d := by
  cases r with
  | cons r t => cases t; exact ⟨_, rfl, r⟩
theorem ra2 {K : PySem.W.Frag} {w : Wd} {vs : List V} {d e : D} (r : RA K w vs [d, e]) : ∃ v u, vs = [v, u] ∧ R K w v d ∧ R K w u e := by
  cases r with
  | cons r t =>
    obtain ⟨u, rfl, r2⟩ := ra1 t
    exact ⟨_, _, rfl, r, r2⟩
theorem di_rng1 {a : Expr} {p pos : Pos} {fa : Env → Store → Res (List D)} (hg : Gl X "range") (hm : X.mg "range" = none) (ha : DA X cl W [a] fa) (hs : starEach [a] X.env = [(false, eval a X.env)] := by rfl) : DI false X cl W tg (.Call (.Name "range" p) [a] [] pos) (fI kRng1 fa) := by
  refine PI.imp (pi_range1 hg hm ha hs) fun σ H Q h => tI_args h fun ds l S1 w1 vs H1 o1 r1 hk q => ?_
  unfold kRng1 at hk
  split at hk
  · rename_i j
    obtain ⟨v, rfl, rv⟩ := ra1 r1
    cases rv
    split at hk
    · rename_i hj
      cases hk
      exact ⟨j, rfl, hj.1, hj.2, q _ (walks_rng 0 j.toNat)⟩
    · cases hk
  · cases hk
theorem di_rng2 {a b : Expr} {p pos : Pos} {fa : Env → Store → Res (List D)} (hg : Gl X "range") (hm : X.mg "range" = none) (ha : DA X cl W [a, b] fa) (hs : starEach [a, b] X.env = [(false, eval a X.env), (false, eval b X.env)] := by rfl) (hs2 : starEach [b] X.env = [(false, eval b X.env)] := by rfl) : DI false X cl W tg (.Call (.Name "range" p) [a, b] [] pos) (fI kRng2 fa) := by
  refine PI.imp (pi_range2 hg hm ha hs hs2) fun σ H Q h => tI_args h fun ds l S1 w1 vs H1 o1 r1 hk q => ?_
  unfold kRng2 at hk
  split at hk
  · rename_i i j
    obtain ⟨v, u, rfl, rv, ru⟩ := ra2 r1
    cases rv; cases ru
    split at hk
    · rename_i hj
      cases hk
      exact ⟨i, j, rfl, hj, q _ (walks_rng i (j - i).toNat)⟩
    · cases hk
  · cases hk
/-- enumerate, zip -/
def enumD (l : List D) : List D := l.mapIdx fun i d => .tup [.int (i : Nat), d]
def zipD (a b : List D) : List D := List.zipWith (fun x y => .tup [x, y]) a b
def kEnum : List D → Option (List D)
  | [.lst l] => some (enumD l)
  | [.tup l] => some (enumD l)
  | _ => none
def kZip : List D → Option (List D)
  | [.lst a, .lst b] => some (zipD a b)
  | [.tup a, .tup b] => some (zipD a b)
  | _ => none
theorem walks_enumL {K : PySem.W.Frag} {w : Wd} {a : Addr} {vs : List V} {l : List D} (h : w.F a = some (.lst vs)) (r : RA K w vs l) : Walks true K cl (Ite K a) w (enumD l) := by
  intro i w1 S1 H1 le ok
  have sq : SqL K H1 a vs := ok.sqL (le.F _ _ h)
  refine ⟨fun d hd => ?_, fun hl => ⟨vs, sq, by rw [r.length, ← hl]; simp [enumD]⟩⟩
  unfold enumD at hd
  rw [List.getElem?_mapIdx] at hd
  cases hc : l[i]? with
  | none => rw [hc] at hd; cases hd
  | some x =>
    rw [hc] at hd; cases hd
    obtain ⟨v, hv, rv⟩ := r.get hc
    refine ⟨⟨vs, v, sq, hv⟩, fun y H2 ⟨T, x2, e1, hT, e2, hx⟩ => ?_⟩
    subst e1 e2
    have := hx vs sq
    rw [hv] at this; cases this
    obtain ⟨e, o, rr⟩ := ok.layW hT (RA.cons (.int _) (RA.cons (rv.mono le) .nil))
    exact ⟨_, e, o, rr⟩
theorem walks_enumT {K : PySem.W.Frag} {w : Wd} {a : Addr} {vs : List V} {l : List D} (h : SqT K w.F a vs) (r : RA K w vs l) : Walks true K cl (IteT K a) w (enumD l) := by
  intro i w1 S1 H1 le ok
  have sq : SqT K H1 a vs := ok.sqT (SqT.mono le.F h)
  refine ⟨fun d hd => ?_, fun hl => ⟨vs, sq, by rw [r.length, ← hl]; simp [enumD]⟩⟩
  unfold enumD at hd
  rw [List.getElem?_mapIdx] at hd
  cases hc : l[i]? with
  | none => rw [hc] at hd; cases hd
  | some x =>
    rw [hc] at hd; cases hd
    obtain ⟨v, hv, rv⟩ := r.get hc
    refine ⟨⟨vs, v, sq, hv⟩, fun y H2 ⟨T, x2, e1, hT, e2, hx⟩ => ?_⟩
    subst e1 e2
    have := hx vs sq
    rw [hv] at this; cases this
    obtain ⟨e, o, rr⟩ := ok.layW hT (RA.cons (.int _) (RA.cons (rv.mono le) .nil))
    exact ⟨_, e, o, rr⟩
theorem zip_get {a b : List D} {i : Nat} {d : D} (h : (zipD a b)[i]? = some d) : ∃ x y, a[i]? = some x ∧ b[i]? = some y ∧ d = .tup [x, y] := by
  unfold zipD at h
  rw [List.getElem?_zipWith] at h
  cases ha : a[i]? with
  | none => rw [ha] at h; cases h
  | some x =>
    cases hb : b[i]? with
    | none => rw [ha, hb] at h; cases h
    | some y => rw [ha, hb] at h; cases h; exact ⟨x, y, rfl, rfl, rfl⟩
theorem walks_zipL {K : PySem.W.Frag} {w : Wd} {a b : Addr} {vs us : List V} {l m : List D} (h : w.F a = some (.lst vs)) (r : RA K w vs l) (h2 : w.F b = some (.lst us)) (r2 : RA K w us m) : Walks true K cl (Itz K a b) w (zipD l m) := by
  intro i w1 S1 H1 le ok
  have sq : SqL K H1 a vs := ok.sqL (le.F _ _ h)
  have sq2 : SqL K H1 b us := ok.sqL (le.F _ _ h2)
  refine ⟨fun d hd => ?_, fun hl => ⟨vs, us, sq, sq2, by
    rw [r.length, r2.length]
    unfold zipD at hl
    rw [List.length_zipWith] at hl
    omega⟩⟩
  obtain ⟨x, y, hx, hy, rfl⟩ := zip_get hd
  obtain ⟨v, hv, rv⟩ := r.get hx
  obtain ⟨u, hu, ru⟩ := r2.get hy
  refine ⟨⟨vs, us, v, u, sq, sq2, hv, hu⟩, fun z H2 ⟨T, x2, y2, e1, hT, e2, hx2, hy2⟩ => ?_⟩
  subst e1 e2
  have := hx2 vs sq
  rw [hv] at this; cases this
  have := hy2 us sq2
  rw [hu] at this; cases this
  obtain ⟨e, o, rr⟩ := ok.layW hT (RA.cons (rv.mono le) (RA.cons (ru.mono le) .nil))
  exact ⟨_, e, o, rr⟩
theorem walks_zipT {K : PySem.W.Frag} {w : Wd} {a b : Addr} {vs us : List V} {l m : List D} (h : SqT K w.F a vs) (r : RA K w vs l) (h2 : SqT K w.F b us) (r2 : RA K w us m) : Walks true K cl (RZ.ItzT K a b) w (zipD l m) := by
  intro i w1 S1 H1 le ok
  have sq : SqT K H1 a vs := ok.sqT (SqT.mono le.F h)
  have sq2 : SqT K H1 b us := ok.sqT (SqT.mono le.F h2)
  refine ⟨fun d hd => ?_, fun hl => ⟨vs, us, sq, sq2, by
    rw [r.length, r2.length]
    unfold zipD at hl
    rw [List.length_zipWith] at hl
    omega⟩⟩
  obtain ⟨x, y, hx, hy, rfl⟩ := zip_get hd
  obtain ⟨v, hv, rv⟩ := r.get hx
  obtain ⟨u, hu, ru⟩ := r2.get hy
  refine ⟨⟨vs, us, v, u, sq, sq2, hv, hu⟩, fun z H2 ⟨T, x2, y2, e1, hT, e2, hx2, hy2⟩ => ?_⟩
  subst e1 e2
  have := hx2 vs sq
  rw [hv] at this; cases this
  have := hy2 us sq2
  rw [hu] at this; cases this
  obtain ⟨e, o, rr⟩ := ok.layW hT (RA.cons (rv.mono le) (RA.cons (ru.mono le) .nil))
  exact ⟨_, e, o, rr⟩
theorem di_enum {a : Expr} {p pos tpos : Pos} {elts : List Expr} {kk : Nat} {fa : Env → Store → Res (List D)} (hg : Gl X "enumerate") (hm : X.mg "enumerate" = none) (ha : DA X cl W [a] fa) (hs : starEach [a] X.env = [(false, eval a X.env)] := by rfl) : DI true X cl W (.Tuple elts kk tpos) (.Call (.Name "enumerate" p) [a] [] pos) (fI kEnum fa) := by
  refine PI.imp (PI.or (pi_enum hg hm ha hs) (pi_enumT hg hm ha hs)) fun σ H Q h => ?_
  have key : ∀ ds, (∃ l, ds = [D.lst l]) ∨ (∀ l m, kEnum ds = some l → ds = [D.tup m] → True) := fun ds => .inr fun _ _ _ _ => trivial
  obtain ⟨w, ρ, S, o, n, p⟩ := id h
  by_cases hl : ∃ l S1, fa ρ S = .ok [.lst l] S1
  · refine .inl ?_
    obtain ⟨l, S1, hf⟩ := hl
    refine tG.at o n ?_
    rw [hf]
    intro w1 vs H1 e1 o1 r1
    simp only [fI, hf, Res.bind, kEnum, Res.of] at p
    obtain ⟨v, rfl, rv⟩ := ra1 r1
    obtain ⟨a, us, rfl, h1, h2⟩ := rv.lst_inv
    exact ⟨a, us, rfl, o1.sqL h1, p w1 H1 _ e1 o1 (walks_enumL h1 h2)⟩
  · refine .inr (tG.at o n ?_)
    cases hf : fa ρ S with
    | bad => simp only [fI, hf, Res.bind] at p
    | err c S1 => simp only [fI, hf, Res.bind] at p; exact p
    | ok ds S1 =>
      intro w1 vs H1 e1 o1 r1
      simp only [fI, hf, Res.bind] at p
      cases hk : kEnum ds with
      | none => simp only [hk, Res.of] at p
      | some z =>
        simp only [hk, Res.of] at p
        unfold kEnum at hk
        split at hk
        · exact absurd ⟨_, _, hf⟩ hl
        · cases hk
          obtain ⟨v, rfl, rv⟩ := ra1 r1
          obtain ⟨a, us, rfl, h1, h2⟩ := rv.tup_inv
          exact ⟨a, us, rfl, o1.sqT h1, p w1 H1 _ e1 o1 (walks_enumT h1 h2)⟩
        · cases hk
theorem di_zip {a b : Expr} {p pos tpos : Pos} {elts : List Expr} {kk : Nat} {fa : Env → Store → Res (List D)} (hg : Gl X "zip") (hm : X.mg "zip" = none) (ha : DA X cl W [a, b] fa) (hs : starEach [a, b] X.env = (false, eval a X.env) :: starEach [b] X.env := by rfl) (hpl : (backTo pos (starEach [b] X.env)).any (·.1) = false := by rfl) : DI true X cl W (.Tuple elts kk tpos) (.Call (.Name "zip" p) [a, b] [] pos) (fI kZip fa) := by
  refine PI.imp (RZ.pi_zipA hg hm ha hs hpl) fun σ H Q h => tI_args h fun ds l S1 w1 vs H1 o1 r1 hk q => ?_
  unfold kZip at hk
  split at hk
  · cases hk
    obtain ⟨v, u, rfl, rv, ru⟩ := ra2 r1
    obtain ⟨a, xs, rfl, h1, h2⟩ := rv.lst_inv
    obtain ⟨b, ys, rfl, h3, h4⟩ := ru.lst_inv
    exact ⟨a, b, xs, ys, rfl, .inl ⟨o1.sqL h1, o1.sqL h3, q _ (walks_zipL h1 h2 h3 h4)⟩⟩
  · cases hk
    obtain ⟨v, u, rfl, rv, ru⟩ := ra2 r1
    obtain ⟨a, xs, rfl, h1, h2⟩ := rv.tup_inv
    obtain ⟨b, ys, rfl, h3, h4⟩ := ru.tup_inv
    exact ⟨a, b, xs, ys, rfl, .inr ⟨o1.sqT h1, o1.sqT h3, q _ (walks_zipT h1 h2 h3 h4)⟩⟩
  · cases hk
end
end BW
namespace BW
open PySem L2
abbrev W0 : WX := fun _ _ _ _ => False
def gE (b : Bool) (K : PySem.W.Frag) (cl : Str → Addr) (ks : List Nat) (t : Tgt) : TG := fun v σ H Q => ∃ w ρ S d ρ', Ok K cl w S H ∧ EnvR K w H σ ρ ∧ Rb b K w v d ∧ t d ρ = some ρ' ∧ ∀ σ', EnvR K w H σ' ρ' → σ'.length = σ.length → (∀ i, i ∉ ks → σ'[i]? = σ[i]?) → Q σ' H
def gEs (K : PySem.W.Frag) (cl : Str → Addr) (ks : List Nat) (t : Tgts) : TGs := fun vs σ H Q => ∃ w ρ S ds ρ', Ok K cl w S H ∧ EnvR K w H σ ρ ∧ RA K w vs ds ∧ t ds ρ = some ρ' ∧ ∀ σ', EnvR K w H σ' ρ' → σ'.length = σ.length → (∀ i, i ∉ ks → σ'[i]? = σ[i]?) → Q σ' H
section
variable {X : Cx} {cl : Str → Addr} {W : WX} {ks : List Nat} {pos : Pos}
theorem eg_name {i : Nat} {x : Str} (hk : i ∈ ks) (hN : X.N.Nodup) (hi : X.N[i]? = some x) (hx : Loc X.env.scope x) (hf : X.fn x = true ∨ X.env.scope.names.lookup x = some .local := by first | exact .inl rfl | exact .inr rfl | assumption) : PG X (.Name x pos) (gE false X.K cl ks (tgName i)) :=
  PG.imp (pg_name hN hi hx hf) fun v σ H Q ⟨w, ρ, S, d, ρ', o, n, r, ht, q⟩ => by
    cases ht
    exact q _ (n.setD r) (by simp) fun j hj => List.getElem?_set_ne (fun e : i = j => hj (e ▸ hk))
theorem egs_nil : PGs X [] (gEs X.K cl ks tgNil) := PGs.imp pgs_nil fun vs σ H Q ⟨w, ρ, S, ds, ρ', o, n, r, ht, q⟩ => by
  cases r with
  | nil => cases ht; exact ⟨rfl, q σ n rfl fun _ _ => rfl⟩
  | cons => cases ht
theorem egs_cons {ex : Expr} {es : List Expr} {t : Tgt} {u : Tgts} (h1 : PG X ex (gE false X.K cl ks t)) (h2 : PGs X es (gEs X.K cl ks u))
    (hs : (assignEach (ex :: es) X.env).map (·.2) = assign ex X.env :: (assignEach es X.env).map (·.2) := by rfl) : PGs X (ex :: es) (gEs X.K cl ks (tgCons t u)) := PGs.imp (pgs_cons h1 h2 hs) fun vs σ H Q ⟨w, ρ, S, ds, ρ', o, n, r, ht, q⟩ => by
  cases r with
  | nil => cases ht
  | @cons v d vs ds r rr =>
    have ht : (t d ρ).bind (u ds) = some ρ' := ht
    cases h : t d ρ with
    | none => rw [h] at ht; cases ht
    | some ρ1 =>
      rw [h] at ht
      exact ⟨v, vs, rfl, w, ρ, S, d, ρ1, o, n, r, h, fun σ1 n1 l1 k1 => ⟨w, ρ1, S, ds, ρ', o, n1, rr, ht, fun σ2 n2 l2 k2 => q σ2 n2 (l2.trans l1) fun i hi => (k2 i hi).trans (k1 i hi)⟩⟩
theorem eg_tup {b : Bool} {es : List Expr} {k n : Nat} {u : Tgts} (hc : X.calm = true) (h : PGs X es (gEs X.K cl ks u)) (hn : (assignEach es X.env).length = n := by rfl) (hst : (assignEach es X.env).findIdx? (·.1) = none := by rfl) :
    PG X (.Tuple es k pos) (gE b X.K cl ks (tgTup n u)) := PG.imp (pg_tup hc h hn hst) fun v σ H Q ⟨w, ρ, S, d, ρ', o, en, r, ht, q⟩ => by
  cases d <;> try (simp only [tgTup] at ht; cases ht)
  rename_i l
  simp only [tgTup] at ht
  split at ht
  · rename_i hl
    obtain ⟨a, vs, rfl, ha, ra⟩ := Rb.tup r
    exact ⟨a, vs, rfl, o.sqT ha, by rw [ra.length]; exact hl, w, ρ, S, l, ρ', o, en, ra, ht, q⟩
  · cases ht
end
def noErr {α : Type} : Res α → Res α
  | .ok a S => .ok a S
  | _ => .bad
def compL (t : Tgt) (ft : Env → Store → Res Bool) (fe : Env → Store → Res D) (ρ : Env) : List D → Store → List D → Res (List D)
  | [], S, acc => .ok acc S
  | x :: xs, S, acc => match t x ρ with
    | none => .bad
    | some ρ1 => (noErr (ft ρ1 S)).bind fun b S1 => if b = true then (noErr (fe ρ1 S1)).bind fun y S2 => if acc.length < LIM then compL t ft fe ρ xs S2 (acc ++ [y]) else .bad else compL t ft fe ρ xs S1 acc
def fComp (fi : Env → Store → Res (List D)) (t : Tgt) (ft : Env → Store → Res Bool) (fe : Env → Store → Res D) (vs : List Nat) : Env → Store → Res (List D) := fun ρ S => (fi ρ S).bind fun ds S1 => compL t ft fe (wipeE ρ vs) ds S1 []
def fYes : Env → Store → Res Bool := fun _ S => .ok true S
theorem PTs.imp {X : Cx} {e : List Expr} {t t' : TT} (h : PTs X e t) (i : ∀ σ H Q, t' σ H Q → t σ H Q) : PTs X e t' := ⟨fun pins s σ H Q I q => h.run pins s σ H Q I (i σ H Q q)⟩
section
variable {X : Cx} {cl : Str → Addr} {W : WX}
theorem dts_nil : PTs X [] (tG X.K cl W RB fYes) := PTs.imp pts_nil fun σ H Q ⟨w, ρ, S, o, n, p⟩ => p.here o rfl
theorem dts_one {c : Expr} {t : Env → Store → Res Bool} (h : DT X cl W c t) : PTs X [c] (tG X.K cl W RB t) := pts_one h
/-- within a block nothing is raised -/
theorem Post.in0 {K : PySem.W.Frag} {α β : Type} {Rl : Wd → β → α → Prop} {σ σ' : L2.St} {w : Wd} {H : Hp} {r : Res α} {k : α → Store → Res (List D)} {Q : β → Hp → Prop} {QL : VK} {w0 : Wd} {H0 : Hp} (e0 : Ext w0 H0 w H) (h : PostL K cl W σ w0 H0 ((noErr r).bind k) QL)
    (hk : ∀ d S1 w1 v H1, Ext w H w1 H1 → Ok K cl w1 S1 H1 → Rl w1 v d → PostL K cl W σ w0 H0 (k d S1) QL → Q v H1) : Post K cl W0 σ' Rl w H r Q := by
  cases r with
  | ok d S => exact fun w1 v H1 e1 o1 r1 => hk d S w1 v H1 e1 o1 r1 h
  | err c S => exact h.elim
  | bad => exact h
/-- as Walks, for what stands behind (w, H) alone -/
def WalksX (b : Bool) (K : PySem.W.Frag) (cl : Str → Addr) (J : It) (w : Wd) (H : Hp) (ds : List D) : Prop := ∀ (i : Nat) (w1 : Wd) (S1 : Store) (H1 : Hp), Ext w H w1 H1 → Ok K cl w1 S1 H1 →
  (∀ d, ds[i]? = some d → J.go i H1 ∧ ∀ x H2, J.yld i H1 x H2 → ∃ w2, Ext w1 H1 w2 H2 ∧ Ok K cl w2 S1 H2 ∧ Rb b K w2 x d) ∧ (ds.length = i → J.stop i H1)
def tIX (b : Bool) (K : PySem.W.Frag) (cl : Str → Addr) (W : WX) (f : Env → Store → Res (List D)) : TI := fun σ H Rr => ∃ w ρ S, Ok K cl w S H ∧ EnvR K w H σ ρ ∧ match f ρ S with
  | .ok ds S' => ∀ w' H' J, Ext w H w' H' → Ok K cl w' S' H' → WalksX b K cl J w' H' ds → Rr J H'
  | .err c S' => ∀ w' H', Ext w H w' H' → Ok K cl w' S' H' → W (.ref (cl c)) none σ H'
  | .bad => False
abbrev DIX (b : Bool) (X : Cx) (cl : Str → Addr) (W : WX) (tg iter : Expr) (f : Env → Store → Res (List D)) : Prop := PI X tg iter (tIX b X.K cl W f)
theorem DI.x {b : Bool} {tg iter : Expr} {f : Env → Store → Res (List D)} (h : DI b X cl W tg iter f) : DIX b X cl W tg iter f := by
  refine PI.imp h fun σ H Rr ⟨w, ρ, S, o, n, p⟩ => ⟨w, ρ, S, o, n, ?_⟩
  cases hf : f ρ S with
  | bad => rw [hf] at p; exact p
  | err c S1 => rw [hf] at p; exact p
  | ok ds S1 =>
    rw [hf] at p
    exact fun w' H' J e1 o1 wk => p w' H' J e1 o1 fun i w2 S2 H2 x o2 => wk i w2 S2 H2 x.le o2
theorem tLc_of {b : Bool} {tg iter : Expr} {own : List Nat} {ks : List Nat} {fi : Env → Store → Res (List D)} {t : Tgt} {ft : Env → Store → Res Bool} {fe : Env → Store → Res D} (hks : ∀ i ∈ ks, i ∈ own) {σ : L2.St} {H : Hp} {Q : VK} (h : tL X.K cl W (fComp fi t ft fe own) σ H Q) :
    tLc (tIX b X.K cl W fi) (gE b X.K cl ks t) (tG X.K cl W0 RB ft) (tG X.K cl W0 (R X.K) fe) own σ H Q := by
  obtain ⟨w, ρ, S, o, n, p⟩ := h
  refine ⟨w, ρ, S, o, n, ?_⟩
  unfold fComp at p
  cases hf : fi ρ S with
  | bad => rw [hf] at p; exact p
  | err c S1 => rw [hf] at p; exact p
  | ok ds S1 =>
    rw [hf] at p
    have p : PostL X.K cl W σ w H (compL t ft fe (wipeE ρ own) ds S1 []) Q := p
    intro w1 H1 J e1 o1 wk Dd hDd
    have hid1 := o1.hid hDd
    refine ⟨fun i m H' => ∃ w' S' acc vs', Ext w1 H1 w' H' ∧ Ok X.K cl w' S' H' ∧ Hid w' Dd ∧ H' Dd = some (.lst vs') ∧ RA X.K w' vs' acc ∧ m = ds.length - i ∧ i ≤ ds.length ∧ PostL X.K cl W σ w H (compL t ft fe (wipeE ρ own) (ds.drop i) S' acc) Q,
      ⟨ds.length, w1, S1, [], [], (Ext.refl w1 H1).mut hDd, o1.mut hid1, hid1, upd_same, .nil, rfl, Nat.zero_le _, p⟩, ?_⟩
    rintro i m H' ⟨w', S', acc, vs', x', o', hid', hD', ra', rfl, hle, p'⟩
    obtain ⟨hgo, hstop⟩ := wk i w' S' H' x' o'
    by_cases hi : i < ds.length
    · have hd : ds[i]? = some ds[i] := by simp [hi]
      rw [List.drop_eq_getElem_cons hi] at p'
      simp only [compL] at p'
      obtain ⟨go, yld⟩ := hgo _ hd
      refine .inr ⟨go, fun H2 => ∃ w2 S2 acc2 vs2, Ext w1 H1 w2 H2 ∧ Ok X.K cl w2 S2 H2 ∧ Hid w2 Dd ∧ H2 Dd = some (.lst vs2) ∧ RA X.K w2 vs2 acc2 ∧ PostL X.K cl W σ w H (compL t ft fe (wipeE ρ own) (ds.drop (i + 1)) S2 acc2) Q,
        fun H2 ⟨w2, S2, acc2, vs2, a1, a2, a3, a4, a5, a6⟩ => ⟨ds.length - (i + 1), by omega, w2, S2, acc2, vs2, a1, a2, a3, a4, a5, rfl, hi, a6⟩, fun x H2 y => ?_⟩
      obtain ⟨w2, e2, o2, r2⟩ := yld x H2 y
      have en2 : EnvR X.K w2 H2 (wipe σ own) (wipeE ρ own) := (((n.mono e1).mono x').mono e2).wipe own
      have x2 := x'.trans e2
      cases ht : t ds[i] (wipeE ρ own) with
      | none => rw [ht] at p'; exact p'.elim
      | some ρ1 =>
        rw [ht] at p'
        refine ⟨w2, wipeE ρ own, S', ds[i], ρ1, o2, en2, r2, ht, fun σ3 n3 l3 k3 => ⟨wipe_same (l3.trans (wipe_length _ _)) fun j hj => k3 j fun z => hj (hks j z), tG.at o2 n3 ?_⟩⟩
        have p' : PostL X.K cl W σ w H ((noErr (ft ρ1 S')).bind fun b S1 => if b = true then (noErr (fe ρ1 S1)).bind fun y S2 => if acc.length < LIM then compL t ft fe (wipeE ρ own) (ds.drop (i + 1)) S2 (acc ++ [y]) else .bad else compL t ft fe (wipeE ρ own) (ds.drop (i + 1)) S1 acc) Q := p'
        refine Post.in0 (e1.trans x2) p' fun b S3 w3 b' H3 e3 o3 rb p3 => ?_
        cases (show b' = b from rb)
        have x3 := x2.trans e3
        have hid2 := hid'.mono e2 hD'
        have hD2 := e2.keep Dd _ hD' hid'.nK
        have hid3 := hid2.mono e3 hD2
        have hD3 := e3.keep Dd _ hD2 hid2.nK
        cases b with
        | false =>
          rw [if_neg Bool.false_ne_true] at p3 ⊢
          exact ⟨w3, S3, acc, vs', x3, o3, hid3, hD3, (ra'.mono e2.le).mono e3.le, p3⟩
        | true =>
          rw [if_pos rfl] at p3 ⊢
          refine tG.at o3 (n3.mono e3) (Post.in0 (e1.trans x3) p3 fun y S4 w4 yv H4 e4 o4 ry p4 => ?_)
          split at p4
          · rename_i hl
            have hid4 := hid3.mono e4 hD3
            have hD4 := e4.keep Dd _ hD3 hid3.nK
            have ra4 := ((ra'.mono e2.le).mono e3.le).mono e4.le
            exact ⟨vs', hD4, lim_lt (by rw [ra'.length]; exact hl), w4, S4, acc ++ [y], vs' ++ [yv], (x3.trans e4).mut hDd, o4.mut hid4, hid4, upd_same, ra4.append (.one ry), p4⟩
          · exact p4.elim
    · refine .inl ⟨hstop (by omega), ?_⟩
      rw [List.drop_eq_nil_of_le (Nat.le_of_not_lt hi)] at p'
      exact p' w' Dd vs' H' (e1.trans x') o' (e1.back hDd) hD' hid' ra'
theorem dl_comp {b : Bool} {elt tg iter : Expr} {ifs : List Expr} {scope : Scope} {own : List (Str × Nat)} {ks : List Nat} {pos : Pos} {fi : Env → Store → Res (List D)} {t : Tgt} {ft : Env → Store → Res Bool} {fe : Env → Store → Res D} (hc : X.calm = true) (hN : X.N.Nodup) (hi : DI b X cl W tg iter fi) (ok : BlkOk X.N X.env.scope scope own)
    (hg : ∀ (s : Shared) (H : Hp) (C : Addr) (cs : List (Str × Addr)) (fp : List Addr), PG (X.blk s H scope (compEnvC scope cs C X.env) fp) tg (gE b X.K cl (own.map (·.2)) t))
    (ht : ∀ (s : Shared) (H : Hp) (C : Addr) (cs : List (Str × Addr)) (fp : List Addr), PTs (X.blk s H scope (compEnvC scope cs C X.env) fp) ifs (tG X.K cl W0 RB ft))
    (he : ∀ (s : Shared) (H : Hp) (C : Addr) (cs : List (Str × Addr)) (fp : List Addr), PE (X.blk s H scope (compEnvC scope cs C X.env) fp) elt (tG X.K cl W0 (R X.K) fe)) (hs : ∀ x, foldedSetIterable iter X.env x = pure x := by intro _; rfl) (hks : own.map (·.2) = ks := by rfl) :
    DL X cl W (.ListComp elt [⟨tg, iter, ifs, 0⟩] scope pos) (fComp fi t ft fe ks) := by
  subst hks
  exact PE.imp (pe_lc hc hN (DI.x hi) ok hg ht he hs) fun σ H Q h => tLc_of (tg := tg) (iter := iter) (fun _ z => z) h
theorem ds_setLc {b : Bool} {e : Pt} {i : Nat} {y : Str} {py : Pos} {elt tg iter : Expr} {ifs : List Expr} {scope : Scope} {own : List (Str × Nat)} {ks : List Nat} {pos spos : Pos} {fi : Env → Store → Res (List D)} {t : Tgt} {ft : Env → Store → Res Bool} {fe : Env → Store → Res D} (hc : X.calm = true) (hN : X.N.Nodup) (hy : X.N[i]? = some y) (hyl : X.env.scope.names.lookup y = some .local)
    (hsw : swapsWith (.ListComp elt [⟨tg, iter, ifs, 0⟩] scope pos) (some (.Name y py)) spos.line X.env = pure true) (hi : DI b X cl W tg iter fi) (ok : BlkOk X.N X.env.scope scope own)
    (hg : ∀ (s : Shared) (H : Hp) (C : Addr) (cs : List (Str × Addr)) (fp : List Addr), PG (X.blk s H scope (compEnvC scope cs C X.env) fp) tg (gE b X.K cl (own.map (·.2)) t))
    (ht : ∀ (s : Shared) (H : Hp) (C : Addr) (cs : List (Str × Addr)) (fp : List Addr), PTs (X.blk s H scope (compEnvC scope cs C X.env) fp) ifs (tG X.K cl W0 RB ft))
    (he : ∀ (s : Shared) (H : Hp) (C : Addr) (cs : List (Str × Addr)) (fp : List Addr), PE (X.blk s H scope (compEnvC scope cs C X.env) fp) elt (tG X.K cl W0 (R X.K) fe)) (hs : ∀ x, foldedSetIterable iter X.env x = pure x := by intro _; rfl) (hks : own.map (·.2) = ks := by rfl) :
    DS X cl e W (.Assign [.Name y py] (.ListComp elt [⟨tg, iter, ifs, 0⟩] scope pos) spos) (sSet i (fFrz (fComp fi t ft fe ks))) := by
  subst hks
  exact PS.imp (ps_setLc hc hN hy hyl hsw (DI.x hi) ok hg ht he hs) fun Z σ H ⟨w, ρ, S, fs, p⟩ => tLc_of (tg := tg) (iter := iter) (fun _ z => z) ⟨w, ρ, S, fs.ok, fs.env, postL_frz (PostS.expr p fs fun d S1 w1 v H1 _ f1 r1 p1 => p1 w1 _ H1 (Le.refl _) (f1.set r1))⟩
end
section
variable {X : Cx} {cl : Str → Addr} {e : Pt} {W : WX} {pos : Pos}
theorem dl_lst {es : List Expr} {g : Env → Store → Res (List D)} (h : DA X cl W es g) : DL X cl W (.List es pos) (fun ρ S => (g ρ S).bind fun ds S1 => if ds.length ≤ LIM then .ok ds S1 else .bad) := by
  refine PE.imp (pe_lst h) fun σ H Q ⟨w, ρ, S, o, n, p⟩ => tG.at o n ?_
  cases hg : g ρ S with
  | bad => simp only [hg, Res.bind] at p; exact p
  | err c S1 => simp only [hg, Res.bind] at p; exact p
  | ok ds S1 =>
    simp only [hg, Res.bind] at p
    intro w1 vs H1 e1 o1 r1
    split at p
    · rename_i hl
      exact ⟨lim_le (by rw [r1.length]; exact hl), fun q hq => p w1 q vs _ (e1.mut (e1.back hq)) (o1.mut (o1.hid hq)) (e1.back hq) upd_same (o1.hid hq) r1⟩
    · exact p.elim
def sSetOwn (i : Nat) (f : Env → Store → Res (List D)) : Stm := fun ρ S => Out.of (f ρ S) ρ fun l S1 => .next (ρ.set i (some (.own l))) S1
theorem ds_setOwn {i : Nat} {x : Str} {ex : Expr} {pos' : Pos} {f : Env → Store → Res (List D)} (hN : X.N.Nodup) (hi : X.N[i]? = some x) (hx : Loc X.env.scope x) (h : DL X cl W ex f) (hs : swapsWith ex (some (.Name x pos')) pos.line X.env = pure false := by rfl)
    (hf : X.fn x = true ∨ X.env.scope.names.lookup x = some .local := by first | exact .inl rfl | exact .inr rfl | assumption) : DS X cl e W (.Assign [.Name x pos'] ex pos) (sSetOwn i f) := by
  refine PS.imp (ps_set hN hi hx h hs hf) fun Z σ H ⟨w, ρ, S, fs, p⟩ => ⟨w, ρ, S, fs.ok, fs.env, ?_⟩
  unfold sSetOwn at p
  cases hf : f ρ S with
  | bad => simp only [hf, Out.of] at p; exact p
  | err c S1 => simp only [hf, Out.of] at p; exact fun w' H' x o => p w' σ H' x.le (fs.on x o)
  | ok l S1 =>
    simp only [hf, Out.of] at p
    intro w1 a vs H1 e1 o1 ha h1 hid ra
    refine p w1 _ H1 e1.le ((fs.on e1 o1).setOwn rfl ⟨a, vs, rfl, h1, ra, hid⟩ (fs.ext.back ha) fun j t hj ht hji hv => ?_)
    obtain ⟨v, hv', so⟩ := fs.env.slot j t hj
    rw [hv] at hv'
    cases hv'
    cases t with
    | dat d => cases ht
    | adr a => cases ht
    | own l2 => obtain ⟨b, us, eb, hb, _⟩ := so; cases eb; rw [ha] at hb; cases hb
    | ownd l2 => obtain ⟨b, us, eb, hb, _⟩ := so; cases eb; rw [ha] at hb; cases hb
/-- what is own is changed -/
theorem Fs.mutOwn {K : PySem.W.Frag} {σ : L2.St} {H : Hp} {w : Wd} {ρ : Env} {S : Store} {i : Nat} {a : Addr} {s s' : Slot} {o : HO} (f : Fs K cl e σ H w ρ S) (hs : ρ[i]? = some (some s)) (so : s.isOwn = true) (hi : σ[i]? = some (some (.ref a))) (hid : Hid w a) (so' : s'.isOwn = true) (ok' : SlotOk K w (upd H a o) s' (.ref a)) :
    Fs K cl e σ (upd H a o) w (ρ.set i (some s')) S := by
  have il : i < ρ.length := (List.getElem?_eq_some_iff.mp hs).1
  have hfr : e.H a = none := f.fr i s a hs so hi
  refine ⟨f.ext.mut hfr, f.ok.mut hid, ⟨by simp [f.env.len], fun j t ht => ?_, fun j l t t' u hjl hj hl os ot hvj hvl => ?_⟩, fun j t b hj os hv => ?_⟩
  · by_cases ej : j = i
    · subst ej
      rw [List.getElem?_set_self il] at ht
      cases ht
      exact ⟨_, hi, ok'⟩
    · rw [List.getElem?_set_ne (Ne.symm ej)] at ht
      obtain ⟨v, hv, sv⟩ := f.env.slot j t ht
      refine ⟨v, hv, ?_⟩
      cases t with
      | dat d => exact sv
      | adr a => exact sv
      | own l =>
        obtain ⟨b, us, rfl, hb, rb, hb2⟩ := sv
        have ne : b ≠ a := fun z => by subst z; exact f.env.sep j i _ _ _ ej ht hs rfl so hv hi
        exact ⟨b, us, rfl, by rw [upd_ne ne]; exact hb, rb, hb2⟩
      | ownd l =>
        obtain ⟨b, us, rfl, hb, rb, hb2⟩ := sv
        have ne : b ≠ a := fun z => by subst z; exact f.env.sep j i _ _ _ ej ht hs rfl so hv hi
        exact ⟨b, us, rfl, by rw [upd_ne ne]; exact hb, rb, hb2⟩
  · have old : ∀ {m : Nat} {t : Slot}, (ρ.set i (some s'))[m]? = some (some t) → t.isOwn = true → ∃ t0, ρ[m]? = some (some t0) ∧ t0.isOwn = true := fun {m t} hm ot => by
      by_cases em : m = i
      · subst em; exact ⟨s, hs, so⟩
      · rw [List.getElem?_set_ne (Ne.symm em)] at hm; exact ⟨t, hm, ot⟩
    obtain ⟨t0, h0, o0⟩ := old hj os
    obtain ⟨t1, h1, o1⟩ := old hl ot
    exact f.env.sep j l t0 t1 u hjl h0 h1 o0 o1 hvj hvl
  · by_cases ej : j = i
    · subst ej
      rw [hi] at hv; cases hv
      exact hfr
    · rw [List.getElem?_set_ne (Ne.symm ej)] at hj
      exact f.fr j t b hj os hv
/-- x.append(e), x own -/
def sAppend (i : Nat) (f : Env → Store → Res (List D)) : Stm := fun ρ S => match ρ[i]? with
  | some (some (.own l)) => Out.of (f ρ S) ρ fun ds S1 => match ds with
    | [d] => if l.length < LIM then .next (ρ.set i (some (.own (l ++ [d])))) S1 else .bad
    | _ => .bad
  | _ => .bad
theorem ds_append {i : Nat} {x : Str} {p apos cpos : Pos} {ex : Expr} {f : Env → Store → Res (List D)} (hv : PE X (.Name x p) (tVar i)) (h : DA X cl W [ex] f)
    (hbase : attributeBase (.Name x p) "append" X.env (eval (.Name x p) X.env) = eval (.Name x p) X.env := by rfl)
    (hfew : ((backTo cpos (starEach [ex] X.env)).all (fun x => !x.1) && (backToKw cpos (keywordEach [] X.env)).all (fun x => x.1.isSome)
      && decide (([ex] : List Expr).length + ([] : List Keyword).length + (if ([] : List Keyword).isEmpty then 0 else 1) < 30)) = true := by rfl)
    (hline : (apos.endLine == cpos.line) = true := by rfl) (hs : starEach [ex] X.env = (false, eval ex X.env) :: starEach [] X.env := by rfl) (hplain : (backTo cpos (starEach [] X.env)).any (·.1) = false := by rfl)
    (hsw : swapsWith (.Call (.Attribute (.Name x p) "append" apos) [ex] [] cpos) none pos.line X.env = pure false := by rfl) :
    DS X cl e W (.Expr (.Call (.Attribute (.Name x p) "append" apos) [ex] [] cpos) pos) (sAppend i f) := by
  refine PS.imp (ps_expr (pe_bm PySem.F.plainAttrs_list PySem.F.slot_list_append PySem.F.type_list_append mt_append hv h hbase hfew hline hs hplain) hsw) fun Z σ H ⟨w, ρ, S, fs, q⟩ => ?_
  unfold sAppend at q
  split at q
  · rename_i l hl
    obtain ⟨v, hv, a, vs, rfl, ha, ra, hid⟩ := fs.env.slot i _ hl
    refine ⟨_, hv, .inl ⟨rfl, vs, SqL.of ha⟩, fs.tG (PostS.expr q fs fun ds S1 w1 us H1 e1 f1 r1 p1 => ?_)⟩
    have ha1 := e1.keep a _ ha hid.nK
    have hid1 := hid.mono e1 ha
    split at p1
    · split at p1
      · rename_i d hlt
        obtain ⟨u, rfl, ru⟩ := ra1 r1
        refine ⟨a, vs, u, rfl, rfl, ha1, lim_lt (by rw [ra.length]; exact hlt), p1 w1 σ _ (Le.refl _) (f1.mutOwn hl rfl hv hid1 rfl ⟨a, _, rfl, upd_same, (ra.mono e1.le).append (.one ru), hid1⟩)⟩
      · exact p1.elim
    · exact p1.elim
  · exact q.elim
/-- an own list becomes data (no step of the program) -/
def sFreeze (i : Nat) (g : Stm) : Stm := fun ρ S => match ρ[i]? with
  | some (some (.own l)) => g (ρ.set i (some (.dat (.lst l)))) S
  | some (some (.ownd l)) => g (ρ.set i (some (.dat (.dic l)))) S
  | _ => .bad
theorem Fs.freeze {K : PySem.W.Frag} {σ : L2.St} {H : Hp} {w : Wd} {ρ : Env} {S : Store} {i : Nat} {a : Addr} {s : Slot} {o : HO} {d : D} (f : Fs K cl e σ H w ρ S) (hs : ρ[i]? = some (some s)) (so : s.isOwn = true) (hi : σ[i]? = some (some (.ref a))) (hid : Hid w a) (ha : H a = some o) (hr : R K (w.lay a o) (.ref a) d) :
    Fs K cl e σ H (w.lay a o) (ρ.set i (some (.dat d))) S := by
  have il : i < ρ.length := (List.getElem?_eq_some_iff.mp hs).1
  have hfr : e.H a = none := f.fr i s a hs so hi
  have le := Le.lay (o := o) hid.nF
  refine ⟨f.ext.freeze hid.nF hfr, f.ok.freeze hid ha, ⟨by simp [f.env.len], fun j t ht => ?_, fun j l t t' u hjl hj hl os ot hvj hvl => ?_⟩, fun j t b hj os hv => ?_⟩
  · by_cases ej : j = i
    · subst ej
      rw [List.getElem?_set_self il] at ht
      cases ht
      exact ⟨_, hi, hr⟩
    · rw [List.getElem?_set_ne (Ne.symm ej)] at ht
      obtain ⟨v, hv, sv⟩ := f.env.slot j t ht
      refine ⟨v, hv, ?_⟩
      have hidn : ∀ {b : Addr}, b ≠ a → Hid w b → Hid (w.lay a o) b := fun {b} nb hb => ⟨by show upd w.F a o b = none; rw [upd_ne nb]; exact hb.nF, hb.nK⟩
      cases t with
      | dat d => exact R.mono le sv
      | adr a => exact sv
      | own l =>
        obtain ⟨b, us, rfl, hb, rb, hb2⟩ := sv
        have ne : b ≠ a := fun z => by subst z; exact f.env.sep j i _ _ _ ej ht hs rfl so hv hi
        exact ⟨b, us, rfl, hb, rb.mono le, hidn ne hb2⟩
      | ownd l =>
        obtain ⟨b, us, rfl, hb, rb, hb2⟩ := sv
        have ne : b ≠ a := fun z => by subst z; exact f.env.sep j i _ _ _ ej ht hs rfl so hv hi
        exact ⟨b, us, rfl, hb, rb.mono le, hidn ne hb2⟩
  · have old : ∀ {m : Nat} {t : Slot}, (ρ.set i (some (.dat d)))[m]? = some (some t) → t.isOwn = true → ρ[m]? = some (some t) := fun {m t} hm ot => by
      by_cases em : m = i
      · subst em; rw [List.getElem?_set_self il] at hm; cases hm; cases ot
      · rw [List.getElem?_set_ne (Ne.symm em)] at hm; exact hm
    exact f.env.sep j l t t' u hjl (old hj os) (old hl ot) os ot hvj hvl
  · by_cases ej : j = i
    · subst ej
      rw [List.getElem?_set_self il] at hj; cases hj; cases os
    · rw [List.getElem?_set_ne (Ne.symm ej)] at hj
      exact f.fr j t b hj os hv
/-- .. with another thing in its place (a dict that is locked for good) -/
theorem Fs.freezeD {K : PySem.W.Frag} {σ : L2.St} {H : Hp} {w : Wd} {ρ : Env} {S : Store} {i : Nat} {a : Addr} {s : Slot} {o : HO} {d : D} (f : Fs K cl e σ H w ρ S) (hs : ρ[i]? = some (some s)) (so : s.isOwn = true) (hi : σ[i]? = some (some (.ref a))) (hid : Hid w a) (hr : R K (w.lay a o) (.ref a) d) :
    Fs K cl e σ (upd H a o) (w.lay a o) (ρ.set i (some (.dat d))) S := by
  have il : i < ρ.length := (List.getElem?_eq_some_iff.mp hs).1
  have hfr : e.H a = none := f.fr i s a hs so hi
  have le := Le.lay (o := o) hid.nF
  refine ⟨(f.ext.mut hfr).freeze hid.nF hfr, (f.ok.mut hid).freeze hid upd_same, ⟨by simp [f.env.len], fun j t ht => ?_, fun j l t t' u hjl hj hl os ot hvj hvl => ?_⟩, fun j t b hj os hv => ?_⟩
  · by_cases ej : j = i
    · subst ej
      rw [List.getElem?_set_self il] at ht
      cases ht
      exact ⟨_, hi, hr⟩
    · rw [List.getElem?_set_ne (Ne.symm ej)] at ht
      obtain ⟨v, hv, sv⟩ := f.env.slot j t ht
      refine ⟨v, hv, ?_⟩
      have hidn : ∀ {b : Addr}, b ≠ a → Hid w b → Hid (w.lay a o) b := fun {b} nb hb => ⟨by show upd w.F a o b = none; rw [upd_ne nb]; exact hb.nF, hb.nK⟩
      cases t with
      | dat d => exact R.mono le sv
      | adr a => exact sv
      | own l =>
        obtain ⟨b, us, rfl, hb, rb, hb2⟩ := sv
        have ne : b ≠ a := fun z => by subst z; exact f.env.sep j i _ _ _ ej ht hs rfl so hv hi
        exact ⟨b, us, rfl, by rw [upd_ne ne]; exact hb, rb.mono le, hidn ne hb2⟩
      | ownd l =>
        obtain ⟨b, us, rfl, hb, rb, hb2⟩ := sv
        have ne : b ≠ a := fun z => by subst z; exact f.env.sep j i _ _ _ ej ht hs rfl so hv hi
        exact ⟨b, us, rfl, by rw [upd_ne ne]; exact hb, rb.mono le, hidn ne hb2⟩
  · have old : ∀ {m : Nat} {t : Slot}, (ρ.set i (some (.dat d)))[m]? = some (some t) → t.isOwn = true → ρ[m]? = some (some t) := fun {m t} hm ot => by
      by_cases em : m = i
      · subst em; rw [List.getElem?_set_self il] at hm; cases hm; cases ot
      · rw [List.getElem?_set_ne (Ne.symm em)] at hm; exact hm
    exact f.env.sep j l t t' u hjl (old hj os) (old hl ot) os ot hvj hvl
  · by_cases ej : j = i
    · subst ej
      rw [List.getElem?_set_self il] at hj; cases hj; cases os
    · rw [List.getElem?_set_ne (Ne.symm ej)] at hj
      exact f.fr j t b hj os hv
/-- a thing is locked, for good -/
def tLk {α : Type} (t : α → L2.St → Hp → Prop) : α → L2.St → Hp → Prop := fun D σ H => t D σ H ∨ ∃ d u, H d = some u ∧ Mut (some u) ∧ ∀ od, t D σ (upd H d (.frz od u))
theorem PSs.lk {st : List Stmt} {t : TS} (h : PSs X st t) : PSs X st (tLk t) := ⟨fun pins s σ H D I hw => by
  rcases hw with hw | ⟨d, u, hd, mu, hw⟩
  · exact h.run pins s σ H D I hw
  · obtain ⟨od, I1⟩ := I.lock hd mu
    exact h.run pins s σ _ D I1 (hw od)⟩
theorem tSt_freeze {K : PySem.W.Frag} {Z : Ends} {σ : L2.St} {H : Hp} {g : Stm} (i : Nat) (h : tSt K cl e W (sFreeze i g) Z σ H) : tLk (tSt K cl e W g) Z σ H := by
  obtain ⟨w, ρ, S, fs, p⟩ := h
  unfold sFreeze at p
  split at p
  · rename_i l hl
    obtain ⟨v, hv, a, vs, rfl, ha, ra, hid⟩ := fs.env.slot i _ hl
    exact .inl ⟨_, _, S, fs.freeze hl rfl hv hid ha (.lst upd_same (ra.mono (Le.lay hid.nF))), PostS.le (Le.lay hid.nF) p⟩
  · rename_i l hl
    obtain ⟨v, hv, a, vs, rfl, ha, ra, hid⟩ := fs.env.slot i _ hl
    exact .inr ⟨a, _, ha, trivial, fun od => ⟨_, _, S, fs.freezeD hl rfl hv hid (.dic upd_same (ra.mono (Le.lay hid.nF))), PostS.le (Le.lay hid.nF) p⟩⟩
  · exact p.elim
theorem dss_freeze {st : List Stmt} {g : Stm} (i : Nat) (h : DSs X cl e W st g) : DSs X cl e W st (sFreeze i g) := PSs.imp (PSs.lk h) fun Z σ H q => tSt_freeze i q
end
end BW
namespace BW
open PySem PySem.Spec PyProof.Rows L2
def startE (n : Nat) (ds : List D) : Env := ds.map (fun d => some (.dat d)) ++ List.replicate (n - ds.length) none
def mOf (n : Nat) (g : Stm) : List D → Store → Res D := fun ds S => match g (startE n ds) S with
  | .next _ S' => .ok .non S'
  | .ret d S' => .ok d S'
  | .err c _ S' => .err c S'
  | _ => .bad
abbrev WOf (E : XK) : WX := fun c d _ H => E c d H
section
variable {P : Program} {w : World} {K : PySem.W.Frag} {mg : Str → Option Value} {base : Heap} {cl : Str → Addr}
theorem start_get {vs : List V} {ds : List D} {u : Wd} (r : RA K u vs ds) (N : List Str) (i : Nat) (s : Slot) (h : (startE N.length ds)[i]? = some (some s)) : ∃ v d, (L2.start N vs)[i]? = some (some v) ∧ s = .dat d ∧ R K u v d := by
  unfold startE at h
  unfold L2.start
  by_cases hi : i < ds.length
  · rw [List.getElem?_append_left (by simpa using hi), List.getElem?_map] at h
    have hd : ds[i]? = some ds[i] := by simp [hi]
    rw [hd] at h
    cases h
    obtain ⟨v, hv, rv⟩ := r.get hd
    refine ⟨v, ds[i], ?_, rfl, rv⟩
    rw [List.getElem?_append_left (by rw [List.length_map, r.length]; exact hi), List.getElem?_map, hv]
    rfl
  · rw [List.getElem?_append_right (by simpa using Nat.le_of_not_lt hi)] at h
    have := List.getElem?_eq_some_iff.mp h
    obtain ⟨h1, h2⟩ := this
    rw [List.getElem_replicate] at h2
    cases h2
def scp (ns : List (Str × NameKind)) (more : List (Str × Const)) : Scope := { kind := .function, names := ns, isGenerator := false, isCoroutine := false, more := more }
theorem Fun.fn {x qual : Str} {st : Stmt} {bd : List Stmt} {sc : Scope} {f : Addr} {fd : FuncData} {N ps : List Str} {k n : Nat} {g : Stm} (F : Fun K x qual st f fd) (hn : N.length = n) (hsc : defScope st = sc) (hbd : defBody st = bd) (Sc : FnScope N ps sc)
    (body : ∀ (cdv : Value) (A : Around) (outer : List PySem.Env) (s : Shared) (H : Hp) (E : XK) (e : Pt), Room k (A.deeper (envOfC qual sc s.heap.objs.size f cdv)) →
      DSs (cxOf (L2.CX P w) P w K mg base N qual sc f cdv A outer s H E) cl e (WOf E) bd g) : FnOk P w K mg base (L2.CX P w) (k + 1) f fd ps (spM K cl ps.length (mOf n g)) := by
  subst hsc hbd hn
  refine F.okX Sc (fun vs H Q E h => ?_) (fun cdv A outer s H vs Q E hr h => ?_)
  · obtain ⟨u, S, ds, _, r, hl, _⟩ := h
    rw [r.length, hl]
  · obtain ⟨u, S, ds, o, r, hl, p⟩ := h
    refine ⟨_, body cdv A outer s H E ⟨u, H⟩ hr, u, startE N.length ds, S, ⟨Ext.refl _ _, o, ⟨?_, fun i sl hs => ?_, fun i j sl t v _ hs _ os => ?_⟩, fun i sl a hs os => ?_⟩, ?_⟩
    · unfold L2.start startE
      simp [r.length]
    · obtain ⟨v, d, h1, rfl, rv⟩ := start_get r N i sl hs
      exact ⟨v, h1, rv⟩
    · obtain ⟨v, d, h1, rfl, rv⟩ := start_get r N i sl hs
      cases os
    · obtain ⟨v, d, h1, rfl, rv⟩ := start_get r N i sl hs
      cases os
    · unfold mOf at p
      cases hg : g (startE N.length ds) S with
      | next ρ S' => rw [hg] at p; exact fun w' σ' H' _ fs => p w' .non H' fs.ext fs.ok .non
      | ret d S' => rw [hg] at p; exact fun w' v H' _ x o' rv => p w' v H' x o' rv
      | err c ρ S' => rw [hg] at p; exact fun w' σ' H' _ fs => p w' H' fs.ext fs.ok
      | brk ρ S' => rw [hg] at p; exact p.elim
      | cont ρ S' => rw [hg] at p; exact p.elim
      | bad => rw [hg] at p; exact p.elim
end
section
variable {X : Cx} {cl : Str → Addr} {W : WX}
def gLen : List D → Store → Option D
  | [.lst l], _ => some (.int (l.length : Nat))
  | [.tup l], _ => some (.int (l.length : Nat))
  | [.str x], _ => if x.length ≤ LIM then some (.int (x.length : Nat)) else none
  | [.scr ns], _ => some (.int (ns.length : Nat))
  | [.dic kvs], _ => some (.int (kvs.length : Nat))
  | [.ref n], S => match S[n]? with
    | some (.lst l) => some (.int (l.length : Nat))
    | some (.dic l) => some (.int (l.length : Nat))
    | some (.dicL l) => some (.int (l.length : Nat))
    | _ => none
  | _, _ => none
theorem call_lenR : CallR X (.builtin "len") (fun xs H Q => ∃ a kvs, xs = [V.ref a] ∧ Rd H a (.dK kvs) ∧ Q (.int (kvs.length : Nat)) H) := by
  intro pins s σ H xs us Q I r h
  obtain ⟨a, kvs, rfl, ha, q⟩ := h
  obtain ⟨u, rfl, ru⟩ := vals1 r
  cases ru
  exact d_len I ha fun t s' I' => ⟨.int _, H, I', ⟨t, rfl⟩, q⟩
theorem c_len : CallR X (.builtin "len") (rN X.K cl gLen) := by
  refine ofN (CallR.or call_len call_lenR) fun xs H Q w S ds z k r hg q => ?_
  unfold gLen at hg
  split at hg
  · cases hg
    obtain ⟨v, rfl, rv⟩ := ra1 r
    obtain ⟨a, vs, rfl, ha, ra⟩ := rv.lst_inv
    refine .inl ⟨.ref a, vs.length, rfl, .inl ⟨vs, k.sqL ha, rfl⟩, ?_⟩
    rw [ra.length]
    exact q w _ H (Ext.refl _ _) k (.int _)
  · cases hg
    obtain ⟨v, rfl, rv⟩ := ra1 r
    obtain ⟨a, vs, rfl, ha, ra⟩ := rv.tup_inv
    refine .inl ⟨.ref a, vs.length, rfl, .inr ⟨vs, k.sqT ha, rfl⟩, ?_⟩
    rw [ra.length]
    exact q w _ H (Ext.refl _ _) k (.int _)
  · split at hg
    · rename_i hl
      cases hg
      obtain ⟨v, rfl, rv⟩ := ra1 r
      cases rv
      exact .inl ⟨_, _, rfl, ⟨lim_le hl, rfl⟩, q w _ H (Ext.refl _ _) k (.int _)⟩
    · cases hg
  · cases hg
    obtain ⟨v, rfl, rv⟩ := ra1 r
    obtain ⟨a, rfl, ha⟩ := rv.scr_inv
    rename_i ns
    refine .inl ⟨.ref a, ns.length, rfl, .inl ⟨_, k.sub.seq ha, by simp⟩, q w _ H (Ext.refl _ _) k (.int _)⟩
  · cases hg
    obtain ⟨v, rfl, rv⟩ := ra1 r
    obtain ⟨a, vs, rfl, ha, ra⟩ := rv.dic_inv
    refine .inr ⟨a, vs, rfl, Rd.mono k.sub ha, ?_⟩
    rw [ra.length]
    exact q w _ H (Ext.refl _ _) k (.int _)
  · obtain ⟨v, rfl, rv⟩ := ra1 r
    obtain ⟨rfl, hn⟩ := rv.ref_inv
    split at hg
    · rename_i l hc
      cases hg
      obtain ⟨_, vs, ha, ra⟩ := k.cell _ _ hc
      refine .inl ⟨_, vs.length, rfl, .inl ⟨vs, SqL.of ha, rfl⟩, ?_⟩
      rw [ra.length]
      exact q w _ H (Ext.refl _ _) k (.int _)
    · rename_i l hc
      cases hg
      obtain ⟨_, vs, ha, ra⟩ := k.cell _ _ hc
      refine .inr ⟨_, vs, rfl, .inl ha, ?_⟩
      rw [ra.length]
      exact q w _ H (Ext.refl _ _) k (.int _)
    · rename_i l hc
      cases hg
      obtain ⟨_, o, vs, ha, ra⟩ := k.cell _ _ hc
      refine .inr ⟨_, vs, rfl, .inr ⟨o, ha⟩, ?_⟩
      rw [ra.length]
      exact q w _ H (Ext.refl _ _) k (.int _)
    · cases hg
  · cases hg
/-- len(x), x own -/
def fLenOwn (i : Nat) : Env → Store → Res D := fun ρ S => match ρ[i]? with
  | some (some (.own l)) => .ok (.int (l.length : Nat)) S
  | _ => .bad
theorem de_lenOwn {i : Nat} {x : Str} {p p2 pos : Pos} (hv : PE X (.Name x p2) (tVar i)) (hg : Gl X "len") (hm : X.mg "len" = none)
    (he : starEach [Expr.Name x p2] X.env = (false, eval (.Name x p2) X.env) :: starEach [] X.env := by rfl) (hpl : (backTo pos (starEach [] X.env)).any (·.1) = false := by rfl) : DE X cl W (.Call (.Name "len" p) [.Name x p2] [] pos) (fLenOwn i) := by
  refine PE.imp (pe_callB call_len hg hm PySem.boot_len (pa_cons hv pa_nil he) (he := he) (hpl := hpl)) fun σ H Q ⟨w, ρ, S, o, n, q⟩ => ?_
  unfold fLenOwn at q
  split at q
  · rename_i l hl
    obtain ⟨v, hv, a, vs, rfl, ha, ra, hid⟩ := n.slot i _ hl
    refine ⟨_, hv, .ref a, vs.length, rfl, .inl ⟨vs, SqL.of ha, rfl⟩, ?_⟩
    rw [ra.length]
    exact q.here o (.int _)
  · exact q.elim
/-- all -/
def bools? : List D → Option (List Bool)
  | [] => some []
  | .bl b :: l => (bools? l).map (b :: ·)
  | _ :: _ => none
theorem bools_ra {K : PySem.W.Frag} {w : Wd} : ∀ {l : List D} {vs : List V} {ns : List Bool}, RA K w vs l → bools? l = some ns → vs = ns.map V.bl
  | [], _, _, .nil, e => by cases e; rfl
  | .bl i :: l, _, ns, .cons r t, e => by
    simp only [bools?, Option.map_eq_some_iff] at e
    obtain ⟨ms, e1, rfl⟩ := e
    cases r
    rw [bools_ra t e1]
    rfl
def gAll : List D → Store → Option D
  | [.lst l], _ => (bools? l).map fun bs => .bl (bs.all id)
  | _, _ => none
theorem c_all (hc : X.calm = true) : CallR X (.builtin "all") (rN X.K cl gAll) := by
  refine ofN (cr_all hc) fun xs H Q w S ds z k r hg q => ?_
  unfold gAll at hg
  split at hg
  · rename_i l
    cases hb : bools? l with
    | none => rw [hb] at hg; cases hg
    | some bs =>
      rw [hb] at hg; cases hg
      obtain ⟨v, rfl, rv⟩ := ra1 r
      obtain ⟨a, vs, rfl, ha, ra⟩ := rv.lst_inv
      have e := bools_ra ra hb
      subst e
      exact ⟨a, bs, rfl, k.sqL ha, q w _ H (Ext.refl _ _) k (.bl _)⟩
  · cases hg
/-- min, max of two -/
def gMin : List D → Store → Option D
  | [.int i, .int j], _ => some (.int (if j < i then j else i))
  | _, _ => none
def gMax : List D → Store → Option D
  | [.int i, .int j], _ => some (.int (if j > i then j else i))
  | _, _ => none
theorem c_min (hc : X.calm = true) : CallR X (.builtin "min") (rN X.K cl gMin) := by
  refine ofN (call_min2 hc) fun xs H Q w S ds z k r hg q => ?_
  unfold gMin at hg
  split at hg
  · cases hg
    obtain ⟨v, u, rfl, rv, ru⟩ := ra2 r
    cases rv; cases ru
    exact ⟨_, _, rfl, q w _ H (Ext.refl _ _) k (.int _)⟩
  · cases hg
theorem c_max (hc : X.calm = true) : CallR X (.builtin "max") (rN X.K cl gMax) := by
  refine ofN (call_max2 hc) fun xs H Q w S ds z k r hg q => ?_
  unfold gMax at hg
  split at hg
  · cases hg
    obtain ⟨v, u, rfl, rv, ru⟩ := ra2 r
    cases rv; cases ru
    exact ⟨_, _, rfl, q w _ H (Ext.refl _ _) k (.int _)⟩
  · cases hg
/-- tuple(x), list(x) -/
def gTuple : List D → Store → Option D
  | [.lst l], _ => some (.tup l)
  | [.tup l], _ => some (.tup l)
  | _, _ => none
theorem c_tuple : CallR X (.type "tuple") (rN X.K cl gTuple) := by
  refine ofN call_tupleS fun xs H Q w S ds z k r hg q => ?_
  unfold gTuple at hg
  split at hg
  · cases hg
    obtain ⟨v, rfl, rv⟩ := ra1 r
    obtain ⟨a, vs, rfl, ha, ra⟩ := rv.lst_inv
    exact ⟨a, vs, rfl, .inl ⟨k.sqL ha, fun l qo hl hd => let ⟨e, o, rr⟩ := k.layT hl hd ra; q _ _ _ e o rr⟩⟩
  · cases hg
    obtain ⟨v, rfl, rv⟩ := ra1 r
    obtain ⟨a, vs, rfl, ha, ra⟩ := rv.tup_inv
    exact ⟨a, vs, rfl, .inr ⟨k.sqT ha, q w _ H (Ext.refl _ _) k rv⟩⟩
  · cases hg
def gList : List D → Store → Option D
  | [.lst l], _ => some (.lst l)
  | [.tup l], _ => some (.lst l)
  | _, _ => none
theorem c_list : CallR X (.type "list") (rN X.K cl gList) := by
  refine ofN call_list_of fun xs H Q w S ds z k r hg q => ?_
  unfold gList at hg
  split at hg
  · cases hg
    obtain ⟨v, rfl, rv⟩ := ra1 r
    obtain ⟨a, vs, rfl, ha, ra⟩ := rv.lst_inv
    exact ⟨a, vs, rfl, .inl (k.sqL ha), fun l hl => let ⟨e, o, rr⟩ := k.layL hl ra; q _ _ _ e o rr⟩
  · cases hg
    obtain ⟨v, rfl, rv⟩ := ra1 r
    obtain ⟨a, vs, rfl, ha, ra⟩ := rv.tup_inv
    exact ⟨a, vs, rfl, .inr (k.sqT ha), fun l hl => let ⟨e, o, rr⟩ := k.layL hl ra; q _ _ _ e o rr⟩
  · cases hg
/-- sorted of ints -/
def insI (x : Int) : List Int → List Int
  | [] => [x]
  | y :: l => if x ≤ y then x :: y :: l else y :: insI x l
def isort : List Int → List Int
  | [] => []
  | x :: l => insI x (isort l)
theorem insI_perm (x : Int) : ∀ l, (insI x l).Perm (x :: l)
  | [] => .refl _
  | y :: l => by
    unfold insI
    split
    · exact .refl _
    · exact ((insI_perm x l).cons y).trans (.swap x y l)
theorem isort_perm : ∀ l, (isort l).Perm l
  | [] => .refl _
  | x :: l => (insI_perm x (isort l)).trans ((isort_perm l).cons x)
theorem insI_le (x : Int) : ∀ l : List Int, l.Pairwise (· ≤ ·) → (insI x l).Pairwise (· ≤ ·)
  | [], _ => by simp [insI]
  | y :: l, h => by
    unfold insI
    obtain ⟨h1, h2⟩ := List.pairwise_cons.mp h
    split
    · rename_i hx
      exact List.pairwise_cons.mpr ⟨fun z hz => by
        rcases List.mem_cons.mp hz with e | e
        · rw [e]; exact hx
        · exact Int.le_trans hx (h1 z e), h⟩
    · rename_i hx
      refine List.pairwise_cons.mpr ⟨fun z hz => ?_, insI_le x l h2⟩
      rcases List.mem_cons.mp ((insI_perm x l).mem_iff.mp hz) with e | e
      · rw [e]; omega
      · exact h1 z e
theorem isort_le : ∀ l : List Int, (isort l).Pairwise (· ≤ ·)
  | [] => .nil
  | x :: l => insI_le x _ (isort_le l)
theorem perm_le_eq : ∀ {a b : List Int}, a.Perm b → a.Pairwise (· ≤ ·) → b.Pairwise (· ≤ ·) → a = b
  | [], b, p, _, _ => by rw [List.nil_perm.mp p]
  | x :: a, [], p, _, _ => by have := p.length_eq; simp at this
  | x :: a, y :: b, p, ha, hb => by
    obtain ⟨a1, a2⟩ := List.pairwise_cons.mp ha
    obtain ⟨b1, b2⟩ := List.pairwise_cons.mp hb
    have hx : x ∈ y :: b := p.mem_iff.mp List.mem_cons_self
    have hy : y ∈ x :: a := p.mem_iff.mpr List.mem_cons_self
    have e : x = y := by
      rcases List.mem_cons.mp hx with e | e
      · exact e
      · rcases List.mem_cons.mp hy with f | f
        · exact f.symm
        · have := b1 x e
          have := a1 y f
          omega
    subst e
    rw [perm_le_eq ((List.perm_cons x).mp p) a2 b2]
def gSorted : List D → Store → Option D
  | [.lst l], _ => (ints? l).map fun ns => .lst ((isort ns).map .int)
  | _, _ => none
theorem ra_ints {K : PySem.W.Frag} {w : Wd} : ∀ ns : List Int, RA K w (ns.map V.int) (ns.map D.int)
  | [] => .nil
  | n :: ns => .cons (.int n) (ra_ints ns)
theorem c_sorted : CallR X (.builtin "sorted") (rN X.K cl gSorted) := by
  refine ofN cr_sortedI fun xs H Q w S ds z k r hg q => ?_
  unfold gSorted at hg
  split at hg
  · rename_i l
    cases hb : ints? l with
    | none => rw [hb] at hg; cases hg
    | some ns =>
      rw [hb] at hg; cases hg
      obtain ⟨v, rfl, rv⟩ := ra1 r
      obtain ⟨a, vs, rfl, ha, ra⟩ := rv.lst_inv
      have e := ints_ra ra hb
      subst e
      refine ⟨a, ns, rfl, k.sqL ha, fun ns' p perm ris hp => ?_⟩
      have e : ns' = isort ns := perm_le_eq (perm.trans (isort_perm ns).symm) ris (isort_le ns)
      subst e
      obtain ⟨e, o, rr⟩ := k.layL hp (ra_ints (isort ns))
      exact q _ _ _ e o rr
  · cases hg
def tyN : D → Option String
  | .non => some "NoneType"
  | .bl _ => some "bool"
  | .int _ => some "int"
  | .str _ => some "str"
  | .tup _ => some "tuple"
  | .lst _ => some "list"
  | _ => none
theorem R.tyX {K : PySem.W.Frag} {w : Wd} {S : Store} {H : Hp} {v : V} {d : D} {t : String} (k : Ok K cl w S H) (r : R K w v d) (h : tyN d = some t) : TyX K H v (.type t) := by
  cases r <;> simp only [tyN] at h <;> cases h
  · exact .base .non
  · exact .base (.bl _)
  · exact .base (.int _)
  · exact .base (.str _)
  · rename_i hs _ _
    rcases k.sqT hs with (h | ⟨o, h⟩) | ⟨o, its, n, hk, hc, _⟩
    · exact .base (.tup h)
    · exact .fTuple h
    · exact .kTuple hk hc
  · rename_i hs _
    exact .base (.lst (k.sub _ _ hs))
structure IsT (T : String) (p : D → Option Bool) : Prop where
  ok : ∀ d b, p d = some b → ∃ t, tyN d = some t ∧ kitB t T = some b
def isIntD : D → Option Bool
  | .int _ => some true | .bl _ => some true | .non => some false | .str _ => some false | .tup _ => some false | .lst _ => some false | _ => none
def isBoolD : D → Option Bool
  | .bl _ => some true | .int _ => some false | .non => some false | .str _ => some false | .tup _ => some false | .lst _ => some false | _ => none
def isStrD : D → Option Bool
  | .str _ => some true | .int _ => some false | .non => some false | .bl _ => some false | .tup _ => some false | .lst _ => some false | _ => none
def isTupD : D → Option Bool
  | .tup _ => some true | .int _ => some false | .non => some false | .bl _ => some false | .str _ => some false | .lst _ => some false | _ => none
theorem isT_int : IsT "int" isIntD := ⟨fun d b h => by cases d <;> simp only [isIntD] at h <;> cases h <;> exact ⟨_, rfl, by decide +kernel⟩⟩
theorem isT_bool : IsT "bool" isBoolD := ⟨fun d b h => by cases d <;> simp only [isBoolD] at h <;> cases h <;> exact ⟨_, rfl, by decide +kernel⟩⟩
theorem isT_str : IsT "str" isStrD := ⟨fun d b h => by cases d <;> simp only [isStrD] at h <;> cases h <;> exact ⟨_, rfl, by decide +kernel⟩⟩
theorem isT_tup : IsT "tuple" isTupD := ⟨fun d b h => by cases d <;> simp only [isTupD] at h <;> cases h <;> exact ⟨_, rfl, by decide +kernel⟩⟩
def fIsi (p : D → Option Bool) (f : Env → Store → Res D) : Env → Store → Res D := fun ρ S => (f ρ S).bind fun d S1 => Res.of S1 ((p d).map .bl)
theorem de_isi {T : String} {p : D → Option Bool} {x : Str} {e : Expr} {p1 p2 pos : Pos} {f : Env → Store → Res D} (ht : IsT T p) (h : DE X cl W e f) (hg : Gl X "isinstance") (hm : X.mg "isinstance" = none) (hgx : Gl X x) (hmx : X.mg x = none) (hvx : bootBuiltins x = some (.type T))
    (hn : x ≠ "__name__" := by decide) (hd : (x == ("__debug__" : Str)) = false := by decide)
    (he : starEach [e, Expr.Name x p2] X.env = (false, eval e X.env) :: starEach [Expr.Name x p2] X.env := by rfl) (he2 : starEach [Expr.Name x p2] X.env = (false, eval (.Name x p2) X.env) :: starEach [] X.env := by rfl) (hpl : (backTo pos (starEach [Expr.Name x p2] X.env)).any (·.1) = false := by rfl) :
    DE X cl W (.Call (.Name "isinstance" p1) [e, .Name x p2] [] pos) (fIsi p f) := by
  refine PE.imp (pe_callB call_isi hg hm (by decide +kernel) (pa_cons h (pa_cons (pe_bltn (v := .ty T) hgx hmx hvx rfl hn hd) pa_nil he2) he) (he := he) (hpl := hpl)) fun σ H Q ⟨w, ρ, S, o, n, q⟩ => tG.at o n (Post.bind q fun d S1 w1 v H1 e1 o1 r1 p1 => ?_)
  cases hp : p d with
  | none => rw [hp] at p1; exact p1.elim
  | some b =>
    rw [hp] at p1
    obtain ⟨t, ht1, ht2⟩ := ht.ok d b hp
    exact ⟨v, .ty T, .type t, .type T, b, rfl, .ty T, r1.tyX o1 ht1, kit_ty ht2, p1.here o1 (.bl _)⟩
theorem de_gint {x : Str} {i : Int} {t : Tok} {pos : Pos} (hg : Gl X x) (hm : X.mg x = some (.int i t)) (hd : (x == ("__debug__" : Str)) = false := by decide) : DE X cl W (.Name x pos) (fC (.int i)) := de_c (pe_glob (v := .int i) hg hm ⟨t, rfl⟩ hd) fun _ => .int i
theorem de_gstr {x y : Str} {t : Tok} {pos : Pos} (hg : Gl X x) (hm : X.mg x = some (.str y t)) (hd : (x == ("__debug__" : Str)) = false := by decide) : DE X cl W (.Name x pos) (fC (.str y)) := de_c (pe_glob (v := .str y) hg hm ⟨t, rfl⟩ hd) fun _ => .str y
/-- a tuple of the module's top, of plain values -/
theorem de_gtup {x : Str} {a : Addr} {l : List D} {pos : Pos} (hg : Gl X x) (hm : X.mg x = some (.ref a)) (h : ∀ w, R X.K w (.ref a) (.tup l)) (hd : (x == ("__debug__" : Str)) = false := by decide) : DE X cl W (.Name x pos) (fC (.tup l)) := de_c (pe_glob (v := .ref a) hg hm rfl hd) h
end
end BW
namespace BW
open PySem PySem.Spec PyProof.Rows L2
theorem u65 {k : Nat} {A : Around} (r : Room k A) : A.units + 65 < cLine := by have := r.un; omega
theorem u1 {k : Nat} {A : Around} (r : Room k A) : A.units + 1 < cLine := by have := r.un; omega
section
variable {X : Cx} {cl : Str → Addr} {e : Pt} {W : WX} {pos : Pos}
def fNew (g : Env → Store → Res (List D)) : Env → Store → Res (List D) := fun ρ S => (g ρ S).bind fun ds S1 => if ds.length ≤ LIM then .ok ds S1 else .bad
theorem dl_new {es : List Expr} {g : Env → Store → Res (List D)} (h : DA X cl W es g) : DL X cl W (.List es pos) (fNew g) := dl_lst h
theorem PostL.bind {K : PySem.W.Frag} {α β : Type} {Rl : Wd → β → α → Prop} {σ : L2.St} {w : Wd} {H : Hp} {r : Res α} {k : α → Store → Res (List D)} {Q : VK} {Q1 : β → Hp → Prop} (h : PostL K cl W σ w H (r.bind k) Q)
    (hk : ∀ d S1 w1 v H1, Ext w H w1 H1 → Ok K cl w1 S1 H1 → Rl w1 v d → PostL K cl W σ w H (k d S1) Q → Q1 v H1) (ne : ∀ d S1 c S2, k d S1 = .err c S2 → True) : Post K cl W σ Rl w H r Q1 := by
  cases r with
  | ok d S => exact fun w1 v H1 e1 o1 r1 => hk d S w1 v H1 e1 o1 r1 h
  | err c S => exact h
  | bad => exact h
theorem PostL.mono {K : PySem.W.Frag} {σ : L2.St} {w w1 : Wd} {H H1 : Hp} {r : Res (List D)} {Q : VK} (x : Ext w H w1 H1) (h : PostL K cl W σ w H r Q) : PostL K cl W σ w1 H1 r Q := by
  cases r with
  | ok l S => exact fun w' a vs H' e o ha h' hi ra => h w' a vs H' (x.trans e) o (x.back ha) h' hi ra
  | err c S => exact fun w' H' e o => h w' H' (x.trans e) o
  | bad => exact h
end
/-- which built-in names the module leaves alone -/
structure Bt (mg : Str → Option Value) : Prop where
  len : mg "len" = none
  isinstance : mg "isinstance" = none
  int : mg "int" = none
  bool : mg "bool" = none
  str : mg "str" = none
  tuple : mg "tuple" = none
  list : mg "list" = none
  set : mg "set" = none
  dict : mg "dict" = none
  all : mg "all" = none
  zip : mg "zip" = none
  enumerate : mg "enumerate" = none
  range : mg "range" = none
  sorted : mg "sorted" = none
  min : mg "min" = none
  max : mg "max" = none
  sum : mg "sum" = none
end BW
namespace BW
open PySem PySem.Spec PyProof.Rows L2
section
variable {X : Cx} {cl : Str → Addr} {W : WX}
theorem de_gint' {x : Str} {i : Int} {pos : Pos} (hg : Gl X x) (hm : ∃ t, X.mg x = some (.int i t)) (hd : (x == ("__debug__" : Str)) = false := by decide) : DE X cl W (.Name x pos) (fC (.int i)) := hm.elim fun _ h => de_gint hg h hd
theorem de_gstr' {x y : Str} {pos : Pos} (hg : Gl X x) (hm : ∃ t, X.mg x = some (.str y t)) (hd : (x == ("__debug__" : Str)) = false := by decide) : DE X cl W (.Name x pos) (fC (.str y)) := hm.elim fun _ h => de_gstr hg h hd
theorem de_gtup' {x : Str} {l : List D} {pos : Pos} (hg : Gl X x) (hm : ∃ a, X.mg x = some (.ref a) ∧ ∀ w, R X.K w (.ref a) (.tup l)) (hd : (x == ("__debug__" : Str)) = false := by decide) : DE X cl W (.Name x pos) (fC (.tup l)) := hm.elim fun _ h => de_gtup hg h.1 h.2 hd
end
end BW
namespace BW
open PySem
theorem bb_int : bootBuiltins "int" = some (.type "int") := by decide +kernel
theorem bb_bool : bootBuiltins "bool" = some (.type "bool") := by decide +kernel
theorem bb_str : bootBuiltins "str" = some (.type "str") := by decide +kernel
theorem bb_tuple : bootBuiltins "tuple" = some (.type "tuple") := by decide +kernel
theorem bb_list : bootBuiltins "list" = some (.type "list") := by decide +kernel
theorem bb_len : bootBuiltins "len" = some (.builtin "len") := by decide +kernel
theorem bb_sum : bootBuiltins "sum" = some (.builtin "sum") := by decide +kernel
theorem bb_all : bootBuiltins "all" = some (.builtin "all") := by decide +kernel
theorem bb_sorted : bootBuiltins "sorted" = some (.builtin "sorted") := by decide +kernel
theorem bb_min : bootBuiltins "min" = some (.builtin "min") := by decide +kernel
theorem bb_max : bootBuiltins "max" = some (.builtin "max") := by decide +kernel
end BW
namespace BW
open PySem PySem.Spec PyProof.Rows L2
/-- where a class stands -/
def clOf (K : PySem.W.Frag) : Str → Addr := fun x => match PySem.W.nsIn K mainGlobals x with
  | some (some (.ref a)) => a
  | _ => 0
theorem kTup {K : PySem.W.Frag} {a : Addr} {its : List Value} {n : Nat} {sl : Array (Option Value)} {vs : List V} {ds : List D} (hk : K.lookup a = some ⟨.type "tuple", none, .seq its.toArray n, sl⟩) (hz : its.length ≤ 100) (hv : Vals vs its) (ra : ∀ w, RA K w vs ds) (w : Wd) : R K w (.ref a) (.tup ds) :=
  .tup (.inr ⟨_, its.toArray, n, hk, rfl, rfl, by simpa using Nat.le_trans hz (by decide), by simpa using hv⟩) (.inr ⟨_, hk, rfl, rfl⟩) (ra w)
def lawW (a : Addr) (H : Hp) : Wd := ⟨0, fun _ => 0, fun b => if b = a then H a else none⟩
theorem law_start {K : PySem.W.Frag} {cl : Str → Addr} {H : Hp} {a : Addr} {ns : List Int} (h : SqL K H a (ns.map V.int)) : Ok K cl (lawW a H) [] H ∧ R K (lawW a H) (.ref a) (.scr ns) := by
  have e : (lawW a H).F a = H a := if_pos rfl
  refine ⟨⟨rfl, fun b o hb => ?_, fun i c hc => by simp at hc, fun i j hi => absurd hi (Nat.not_lt_zero _)⟩, .scr ?_⟩
  · by_cases eb : b = a
    · subst eb; rw [e] at hb; exact hb
    · have : (lawW a H).F b = none := if_neg eb
      rw [this] at hb; cases hb
  · rcases h with (h | ⟨o, h⟩) | h
    · exact .inl (.inl (e.trans h))
    · exact .inl (.inr ⟨o, e.trans h⟩)
    · exact .inr h
/-- what is left to show of a law -/
def LawOk (m : List D → Store → Res D) : Prop := ∀ ns : List Int, ns.length ≤ 63 → ∃ S, m [.scr ns] [] = .ok (.bl true) S
theorem law_sp {K : PySem.W.Frag} {cl : Str → Addr} {m : List D → Store → Res D} (h : LawOk m) {H : Hp} {a : Addr} {ns : List Int} (hl : ns.length ≤ 63) (hs : SqL K H a (ns.map V.int)) : spM K cl 1 m [.ref a] H (fun v _ => v = .bl true) fun _ _ _ => False := by
  obtain ⟨o, r⟩ := law_start (cl := cl) hs
  obtain ⟨S, e⟩ := h ns hl
  refine ⟨_, [], [.scr ns], o, .one r, rfl, ?_⟩
  rw [e]
  exact fun w' v H' _ _ rv => rv.bl_inv
theorem law_cx {P : Program} {w : World} {H : Hp} {s : Shared} {e : Value} {s' : Shared} (h : L2.CX P w [] H s (fun _ _ _ => False) e s') : False := by
  obtain ⟨_, _, _, _, _, _, _, _, _, _, _, _, z⟩ := h
  exact z
end BW
namespace BW
open PySem L2
section
variable {α β : Type} (ρ : Env) (S : Store)
@[simp] theorem bind_ok (a : α) (k : α → Store → Res β) : (Res.ok a S).bind k = k a S := rfl
@[simp] theorem bind_err (c : Str) (k : α → Store → Res β) : (Res.err c S : Res α).bind k = .err c S := rfl
@[simp] theorem bind_bad (k : α → Store → Res β) : (Res.bad : Res α).bind k = .bad := rfl
@[simp] theorem of_some (a : α) : Res.of S (some a) = .ok a S := rfl
@[simp] theorem of_none : Res.of S (none : Option α) = .bad := rfl
@[simp] theorem oof_ok (a : α) (k : α → Store → Out) : Out.of (.ok a S) ρ k = k a S := rfl
@[simp] theorem oof_err (c : Str) (k : α → Store → Out) : Out.of (.err c S : Res α) ρ k = .err c ρ S := rfl
@[simp] theorem oof_bad (k : α → Store → Out) : Out.of (.bad : Res α) ρ k = .bad := rfl
@[simp] theorem noErr_ok (a : α) : noErr (.ok a S) = .ok a S := rfl
@[simp] theorem e_fC (d : D) : fC d ρ S = .ok d S := rfl
@[simp] theorem e_fNil : fNil ρ S = .ok [] S := rfl
@[simp] theorem e_fCons (f : Env → Store → Res D) (g : Env → Store → Res (List D)) : fCons f g ρ S = (f ρ S).bind fun d S1 => (g ρ S1).bind fun ds S2 => .ok (d :: ds) S2 := rfl
@[simp] theorem e_fTup (g : Env → Store → Res (List D)) : fTup g ρ S = (g ρ S).bind fun ds S1 => if ds.length ≤ LIM then .ok (.tup ds) S1 else .bad := rfl
@[simp] theorem e_fLst (g : Env → Store → Res (List D)) : fLst g ρ S = (g ρ S).bind fun ds S1 => if ds.length ≤ LIM then .ok (.lst ds) S1 else .bad := rfl
@[simp] theorem e_f2 (g : D → D → Store → Option D) (fa fb : Env → Store → Res D) : f2 g fa fb ρ S = (fa ρ S).bind fun a S1 => (fb ρ S1).bind fun b S2 => Res.of S2 (g a b S2) := rfl
@[simp] theorem e_fN (g : List D → Store → Option D) (fa : Env → Store → Res (List D)) : fN g fa ρ S = (fa ρ S).bind fun ds S1 => Res.of S1 (g ds S1) := rfl
@[simp] theorem e_fM (n : Nat) (m : List D → Store → Res D) (fa : Env → Store → Res (List D)) : fM n m fa ρ S = (fa ρ S).bind fun ds S1 => if ds.length = n then m ds S1 else .bad := rfl
@[simp] theorem e_fB (f : Env → Store → Res D) : fB f ρ S = (f ρ S).bind fun d S1 => match d with | .bl b => .ok b S1 | _ => .bad := rfl
@[simp] theorem e_fAnd (f g : Env → Store → Res Bool) : fAnd f g ρ S = (f ρ S).bind fun b S1 => if b = true then g ρ S1 else .ok false S1 := rfl
@[simp] theorem e_fOr (f g : Env → Store → Res Bool) : fOr f g ρ S = (f ρ S).bind fun b S1 => if b = true then .ok true S1 else g ρ S1 := rfl
@[simp] theorem e_fNot (f : Env → Store → Res Bool) : fNot f ρ S = (f ρ S).bind fun b S1 => .ok (!b) S1 := rfl
@[simp] theorem e_vAnd (f g : Env → Store → Res D) : vAnd f g ρ S = (f ρ S).bind fun d S1 => match d with | .bl true => g ρ S1 | .bl false => .ok (.bl false) S1 | _ => .bad := rfl
@[simp] theorem e_vOr (f g : Env → Store → Res D) : vOr f g ρ S = (f ρ S).bind fun d S1 => match d with | .bl true => .ok (.bl true) S1 | .bl false => g ρ S1 | _ => .bad := rfl
@[simp] theorem e_vNot (f : Env → Store → Res D) : vNot f ρ S = (f ρ S).bind fun d S1 => match d with | .bl b => .ok (.bl (!b)) S1 | _ => .bad := rfl
@[simp] theorem e_fNeg (f : Env → Store → Res D) : fNeg f ρ S = (f ρ S).bind fun d S1 => match d with | .int i => .ok (.int (-i)) S1 | _ => .bad := rfl
@[simp] theorem e_fIf (t : Env → Store → Res Bool) (f g : Env → Store → Res D) : fIf t f g ρ S = (t ρ S).bind fun b S1 => if b = true then f ρ S1 else g ρ S1 := rfl
@[simp] theorem e_fChain (g g' : D → D → Store → Option D) (fa fb fc : Env → Store → Res D) : fChain g g' fa fb fc ρ S = (fa ρ S).bind fun a S1 => (fb ρ S1).bind fun b S2 => match g a b S2 with
    | some (.bl true) => (fc ρ S2).bind fun c S3 => Res.of S3 (g' b c S3)
    | some (.bl false) => .ok (.bl false) S2
    | _ => .bad := rfl
@[simp] theorem e_fIsi (p : D → Option Bool) (f : Env → Store → Res D) : fIsi p f ρ S = (f ρ S).bind fun d S1 => Res.of S1 ((p d).map .bl) := rfl
@[simp] theorem e_fCut (f : Env → Store → Res D) (l h : Env → Store → Res (Option Int)) : fCut f l h ρ S = (f ρ S).bind fun d S1 => (l ρ S1).bind fun lo S2 => (h ρ S2).bind fun hi S3 => Res.of S3 (gCut d lo hi) := rfl
@[simp] theorem e_oNone : oNone ρ S = .ok none S := rfl
@[simp] theorem e_oSome (f : Env → Store → Res D) : oSome f ρ S = (f ρ S).bind fun d S1 => match d with | .int i => .ok (some i) S1 | _ => .bad := rfl
@[simp] theorem e_fFrz (f : Env → Store → Res (List D)) : fFrz f ρ S = (f ρ S).bind fun l S1 => .ok (.lst l) S1 := rfl
@[simp] theorem e_fNew (g : Env → Store → Res (List D)) : fNew g ρ S = (g ρ S).bind fun ds S1 => if ds.length ≤ LIM then .ok ds S1 else .bad := rfl
@[simp] theorem e_fYes : fYes ρ S = .ok true S := rfl
@[simp] theorem e_fComp (fi : Env → Store → Res (List D)) (t : Tgt) (ft : Env → Store → Res Bool) (fe : Env → Store → Res D) (vs : List Nat) : fComp fi t ft fe vs ρ S = (fi ρ S).bind fun ds S1 => compL t ft fe (wipeE ρ vs) ds S1 [] := rfl
@[simp] theorem e_fItems (f : Env → Store → Res D) : fItems f ρ S = (f ρ S).bind fun d S1 => match d with
  | .lst l => .ok l S1
  | .tup l => .ok l S1
  | .str x => .ok (x.cps.toList.map fun c => .str ⟨#[c]⟩) S1
  | .dic kvs => .ok (kvs.map fun kv => kD kv.1) S1
  | _ => .bad := rfl
@[simp] theorem e_fI (k : List D → Option (List D)) (fa : Env → Store → Res (List D)) : fI k fa ρ S = (fa ρ S).bind fun ds S1 => Res.of S1 (k ds) := rfl
@[simp] theorem e_sNil : sNil ρ S = .next ρ S := rfl
@[simp] theorem e_sRet (f : Env → Store → Res D) : sRet f ρ S = Out.of (f ρ S) ρ fun d S1 => .ret d S1 := rfl
@[simp] theorem e_sExpr (f : Env → Store → Res D) : sExpr f ρ S = Out.of (f ρ S) ρ fun _ S1 => .next ρ S1 := rfl
@[simp] theorem e_sIf (t : Env → Store → Res Bool) (g h : Stm) : sIf t g h ρ S = Out.of (t ρ S) ρ fun b S1 => if b = true then g ρ S1 else h ρ S1 := rfl
@[simp] theorem e_sSet (i : Nat) (f : Env → Store → Res D) : sSet i f ρ S = Out.of (f ρ S) ρ fun d S1 => .next (ρ.set i (some (.dat d))) S1 := rfl
@[simp] theorem e_sSetOwn (i : Nat) (f : Env → Store → Res (List D)) : sSetOwn i f ρ S = Out.of (f ρ S) ρ fun l S1 => .next (ρ.set i (some (.own l))) S1 := rfl
@[simp] theorem e_sFor (fi : Env → Store → Res (List D)) (t : Tgt) (g : Stm) : sFor fi t g ρ S = Out.of (fi ρ S) ρ fun ds S1 => forL t g ds ρ S1 := rfl
@[simp] theorem e_sAsg (t : Tgt) (f : Env → Store → Res D) : sAsg t f ρ S = Out.of (f ρ S) ρ fun d S1 => match t d ρ with | some ρ' => .next ρ' S1 | none => .bad := rfl
@[simp] theorem e_tgName (i : Nat) (d : D) : tgName i d ρ = some (ρ.set i (some (.dat d))) := rfl
@[simp] theorem e_tgNil : tgNil [] ρ = some ρ := rfl
@[simp] theorem e_tgCons (t : Tgt) (u : Tgts) (d : D) (r : List D) : tgCons t u (d :: r) ρ = (t d ρ).bind (u r) := rfl
@[simp] theorem e_tgTup (n : Nat) (u : Tgts) (l : List D) : tgTup n u (.tup l) ρ = if l.length = n then u l ρ else none := rfl
end
theorem fV_at {i : Nat} {ρ : Env} {d : D} {S : Store} (h : ρ[i]? = some (some (.dat d))) : fV i ρ S = .ok d S := by unfold fV; rw [h]
@[simp] theorem e_seq_next (g h : Stm) (ρ : Env) (S : Store) : sSeq g h ρ S = match g ρ S with | .next ρ1 S1 => h ρ1 S1 | o => o := rfl
@[simp] theorem e_fV0 (a : Slot) (l : Env) (S : Store) : fV 0 (some a :: l) S = match a with | .dat d => .ok d S | _ => .bad := by cases a <;> rfl
@[simp] theorem e_fVs (i : Nat) (a : Option Slot) (l : Env) (S : Store) : fV (i + 1) (a :: l) S = fV i l S := by unfold fV; simp
@[simp] theorem e_fVn (a : Option Slot) (l : Env) (S : Store) (i : Nat) : fV i.succ (a :: l) S = fV i l S := by unfold fV; simp
@[simp] theorem e_start (n : Nat) (ds : List D) : startE n ds = ds.map (fun d => some (.dat d)) ++ List.replicate (n - ds.length) none := rfl
@[simp] theorem e_mOf (n : Nat) (g : Stm) (ds : List D) (S : Store) : mOf n g ds S = match g (startE n ds) S with | .next _ S' => .ok .non S' | .ret d S' => .ok d S' | .err c _ S' => .err c S' | _ => .bad := rfl
section
variable (S : Store)
@[simp] theorem o1 (i j : Int) : gAdd (.int i) (.int j) S = some (.int (i + j)) := rfl
@[simp] theorem o2 (i j : Int) : gSub (.int i) (.int j) S = some (.int (i - j)) := rfl
theorem mul_ok {i j : Int} (h : (-(2 ^ 64) < i ∧ i < 2 ^ 64) ∨ (-(2 ^ 64) < j ∧ j < 2 ^ 64)) : gMul (.int i) (.int j) S = some (.int (i * j)) := by
  show (if _ then _ else _) = _
  rw [if_pos h]
theorem fdiv_ok {i j : Int} (h1 : 0 < j) (h2 : j < 1073741824) : gFdiv (.int i) (.int j) S = some (.int (i / j)) := by
  show (if _ then _ else _) = _
  rw [if_pos ⟨h1, h2⟩]
theorem mod_ok {i j : Int} (h : 0 < j) : gMod (.int i) (.int j) S = some (.int (i % j)) := by
  show (if _ then _ else _) = _
  rw [if_pos h]
@[simp] theorem o_lenL (l : List D) : gLen [.lst l] S = some (.int (l.length : Nat)) := rfl
@[simp] theorem o_lenT (l : List D) : gLen [.tup l] S = some (.int (l.length : Nat)) := rfl
@[simp] theorem o_lenS (l : List Int) : gLen [.scr l] S = some (.int (l.length : Nat)) := rfl
theorem eq_ok {a b : D} (neg : Bool) (ha : okD 12 a = true) (hb : okD 12 b = true) : gEq neg a b S = some (.bl (xor neg (deq a b))) := by
  unfold gEq
  rw [ha, hb]
  rfl
@[simp] theorem deq_int (i j : Int) : deq (.int i) (.int j) = (i == j) := by simp [deq, toPy, PyData.eqv]
@[simp] theorem deq_str (i j : Str) : deq (.str i) (.str j) = (i == j) := by simp [deq, toPy, PyData.eqv]
@[simp] theorem eq_int (neg : Bool) (i j : Int) : gEq neg (.int i) (.int j) S = some (.bl (xor neg (i == j))) := by rw [eq_ok S neg rfl rfl, deq_int]
@[simp] theorem ix_tup_nat (l : List D) (n : Nat) : gIx (.tup l) (.int (n : Int)) S = l[n]? := by
  show atI l _ = _
  unfold atI ixN
  rw [if_pos (Int.natCast_nonneg n)]
  by_cases h : n < l.length
  · rw [if_pos (by omega)]; simp
  · rw [if_neg (by omega)]; simp; omega
@[simp] theorem ix_lst_nat (l : List D) (n : Nat) : gIx (.lst l) (.int (n : Int)) S = l[n]? := ix_tup_nat S l n
theorem ix_tup (l : List D) {i : Int} (h : 0 ≤ i) : gIx (.tup l) (.int i) S = l[i.toNat]? := by
  have := ix_tup_nat S l i.toNat
  rw [Int.toNat_of_nonneg h] at this
  exact this
theorem ix_lst (l : List D) {i : Int} (h : 0 ≤ i) : gIx (.lst l) (.int i) S = l[i.toNat]? := ix_tup S l h
end
theorem lim_small {n : Nat} (h : n ≤ 1000) : n ≤ LIM := Nat.le_trans h (by decide)
theorem limlt_small {n : Nat} (h : n ≤ 1000) : n < LIM := Nat.lt_of_le_of_lt h (by decide)
theorem okD_up : ∀ {n : Nat} {d : D}, okD n d = true → okD (n + 1) d = true := by
  intro n
  induction n with
  | zero => intro d h; cases d <;> simp_all [okD]
  | succ n ih =>
    intro d h
    cases d <;> simp_all [okD]
theorem okD_le {n m : Nat} {d : D} (h : okD n d = true) (hn : n ≤ m) : okD m d = true := by
  induction hn with
  | refl => exact h
  | step _ ih => exact okD_up ih
theorem bools_map {α : Type} (p : α → Bool) : ∀ xs : List α, bools? (xs.map fun x => D.bl (p x)) = some (xs.map p)
  | [] => rfl
  | x :: xs => by simp [bools?, bools_map p xs]
theorem all_map (S : Store) {α : Type} (p : α → Bool) (xs : List α) : gAll [.lst (xs.map fun x => D.bl (p x))] S = some (.bl (xs.all p)) := by
  simp only [gAll, bools_map, Option.map_some]
  congr 2
  induction xs with
  | nil => rfl
  | cons x xs ih => simp [ih]
theorem any_strs (s : Str) : ∀ ws : List Str, (ws.map D.str).any (fun z => deq z (.str s)) = ws.any (· == s)
  | [] => rfl
  | w :: ws => by simp only [List.map_cons, List.any_cons, deq_str, any_strs s ws]
theorem in_strs (S : Store) (neg : Bool) (s : Str) (ws : List Str) (hs : PyData.strOk s = true) (hw : ws.all PyData.strOk = true) : gIn neg (.str s) (.tup (ws.map .str)) S = some (.bl (xor neg (ws.any (· == s)))) := by
  have h : okD 12 (.tup (ws.map D.str)) = true := by
    simp only [okD, List.all_map]
    exact hw
  have h2 : okD 12 (.str s) = true := hs
  show (if okD 12 (.str s) && okD 12 (.tup (ws.map D.str)) then some (D.bl (xor neg ((ws.map D.str).any fun z => deq z (.str s)))) else none) = _
  rw [h, h2, any_strs]
  rfl
end BW
namespace BW
open PySem PySem.Spec PyProof.Rows L2
def sRaise (c : Str) : Stm := fun ρ S => .err c ρ S
abbrev veMro : List Value := [.type "ValueError", .type "Exception", .type "BaseException", .type "object"]
/-- an own class of errors, as the module has it -/
structure XcOk (K : PySem.W.Frag) (mg : Str → Option Value) (cl : Str → Addr) (x : Str) : Prop where
  g : mg x = some (.ref (cl x))
  q : PySem.W.excIn K (cl x) veMro "ValueError.__new__" = true
  k : PySem.W.keepIn K (.ref (cl x)) = true
  b : PySem.W.subIn K (.ref (cl x)) (.type "BaseException") = some true
  t : PySem.W.typeIn K (.ref (cl x)) = some (.type "type")
section
variable {X : Cx} {cl : Str → Addr} {W : WX} {e : Pt}
theorem ds_raise {x m : Str} {j : Nat} {p p2 pos pos' : Pos} (C : XcOk X.K X.mg cl x) (hc : X.calm = true) (tk : Takes X W) (hg : Gl X x) (hdb : (x == ("__debug__" : Str)) = false := by decide) :
    DS X cl e W (.Raise (some (.Call (.Name x p) [.Constant (.str m) j p2] [] pos)) none pos') (sRaise x) :=
  PS.imp (ps_raise hc tk (pmk_own PySem.F.excBase_ValueError C.q C.g C.k (raises_own C.b C.t) hg hdb)) fun Z σ H ⟨w, ρ, S, fs, p⟩ => p w σ H (Le.refl _) fs
/-- slot i holds the address a -/
def fAt {α : Type} (i : Nat) (a : Addr) (r : Store → Res α) : BW.Env → Store → Res α := fun ρ S => match ρ[i]? with
  | some (some (.adr b)) => if b = a then r S else .bad
  | _ => .bad
theorem fAt_inv {K : PySem.W.Frag} {α : Type} {i : Nat} {a : Addr} {r : Store → Res α} {ρ : BW.Env} {S : Store} {σ : L2.St} {H : Hp} {w : Wd} (n : EnvR K w H σ ρ) {P : Res α → Prop} (hb : ¬ P .bad) (h : P (fAt i a r ρ S)) : σ[i]? = some (some (.ref a)) ∧ P (r S) := by
  unfold fAt at h
  split at h
  · rename_i b eb
    split at h
    · rename_i e
      subst e
      obtain ⟨v, hv, sv⟩ := n.slot i _ eb
      cases sv
      exact ⟨hv, h⟩
    · exact absurd h hb
  · exact absurd h hb
theorem call_isP {a E : Addr} {oe : Obj} (C : ExcC X.K E) (hp : (a, oe) ∈ X.pn) (hz : Zc (.ref E) none oe) (hf : ∃ vs, oe.data = .fields vs) : CallR X (.builtin "isinstance") (rIsE X.K E a) := by
  intro pins s σ H xs us Q I r h
  obtain ⟨c, cv, b, rfl, hcv, e, q⟩ := h
  match us, r with
  | [u1, u2], .cons r1 (.cons r2 .nil) =>
    cases r1
    have ec := hcv _ r2
    subst ec
    have hget := (I.pin (a, oe) (List.mem_append_left _ hp)).1
    obtain ⟨vs, hv⟩ := hf
    have J : PySem.W.InstAt s.heap a oe E none := by
      cases oe with
      | mk oc od oda osl =>
        have h1 := hz.1
        have h2 := hz.2
        dsimp only at h1 h2 hv
        subst h1 h2 hv
        exact ⟨hget, rfl, rfl, trivial⟩
    have kx := PySem.W.handS_kitx_exc (x := a) (ox := oe) C.hg C.hk C.hs C.hd C.ha C.hn C.ht C.hm
    exact PySem.W.kia_one kx I.kIn J e (fun z => nomatch z) fun tk => ⟨.bl b, H, I.kept (t' := tk) fun _ _ z => z, rfl, q⟩
/-- isinstance(e, x), x a class of the text -/
theorem de_isE {i : Nat} {a E : Addr} {oe : Obj} {b : Bool} {c : V} {cv : Value} {n x : Str} {p1 p2 p3 pos : Pos} (C : ExcC X.K E) (hp : (a, oe) ∈ X.pn) (hz : Zc (.ref E) none oe) (hf : ∃ vs, oe.data = .fields vs) (hv : PE X (.Name n p3) (tVar i)) (hx : PE X (.Name x p2) (tC c)) (hcv : ∀ u, RelV c u → u = cv) (hk : PySem.W.kitOne X.K (.ref E) cv = some b)
    (hg : Gl X "isinstance") (hm : X.mg "isinstance" = none) (he : starEach [Expr.Name n p3, Expr.Name x p2] X.env = (false, eval (.Name n p3) X.env) :: starEach [Expr.Name x p2] X.env := by rfl) (he2 : starEach [Expr.Name x p2] X.env = (false, eval (.Name x p2) X.env) :: starEach [] X.env := by rfl) (hpl : (backTo pos (starEach [Expr.Name x p2] X.env)).any (·.1) = false := by rfl) :
    DE X cl W (.Call (.Name "isinstance" p1) [.Name n p3, .Name x p2] [] pos) (fAt i a fun S => .ok (.bl b) S) := by
  refine PE.imp (pe_callB (call_isP C hp hz hf) hg hm (by decide +kernel) (pa_cons hv (pa_cons hx pa_nil he2) he) (he := he) (hpl := hpl)) fun σ H Q ⟨w, ρ, S, o, n, q⟩ => ?_
  obtain ⟨h1, h2⟩ := fAt_inv (P := fun r => Post X.K cl W σ (R X.K) w H r Q) n (fun z => z) q
  exact ⟨.ref a, h1, c, cv, b, rfl, hcv, hk, h2.here o (.bl b)⟩
end
structure FnE (P : Program) (w : World) (K : PySem.W.Frag) (mg : Str → Option Value) (base : Heap) (k : Nat) (f : Addr) (fd : FuncData) (ps : List Str) (p : Addr × Obj) (sp : Sp) : Prop where
  len : ∀ vs H Q E, sp vs H Q E → vs.length = ps.length
  run : ∀ (A : Around) (outer : List PySem.Env) (s : Shared) (H : Hp) (args : Args) (us : List Value) (vs : List V) (Q : VK) (E : XK), L2H.RoomH k A → L2H.PinOk outer H s p → Env0 P w K mg base A outer s H → BindsTo s fd args (ps.zip us) → Vals vs us →
    sp vs H Q E → codeAny (model P w) A (.call (.ref f) args) (CR (L2.CX P w) outer P w H s Q E) s
section
variable {P : Program} {w : World} {K : PySem.W.Frag} {mg : Str → Option Value} {base : Heap} {cl : Str → Addr}
theorem FnE.of {x qual : Str} {st : Stmt} {f : Addr} {fd : FuncData} {N ps : List Str} {k : Nat} {p : Addr × Obj} {sp : Sp} (F : Fun K x qual st f fd) (Sc : FnScope N ps (defScope st)) (len : ∀ vs H Q E, sp vs H Q E → vs.length = ps.length)
    (body : ∀ (cdv : Value) (A : Around) (outer : List PySem.Env) (s : Shared) (H : Hp) (vs : List V) (Q : VK) (E : XK), L2H.RoomH k (A.deeper (envOfC qual (defScope st) s.heap.objs.size f cdv)) → sp vs H Q E →
      ∃ t, PSs (L2H.cxH (L2.CX P w) P w K mg base N qual (defScope st) f cdv A outer s H E p) (defBody st) t ∧ t { nx := fun _ H' => Q .non H', rt := Q } (L2.start N vs) H) : FnE P w K mg base (k + 1) f fd ps p sp := by
  obtain ⟨oc, od, kV, doc, pm, an, cdv, ct, osl, rfl, lk, hcd⟩ := F.ex
  refine ⟨len, fun A outer s H args us vs Q E room pin e0 binds rel want => ?_⟩
  have there : ∀ b o, base.get? b = some o → s.heap.get? b = some o := fun b o e => (e0.bs b o e).1
  have KX : K.In s.heap := e0.mod.kin.keeps there
  have kinds : ∀ y ∈ ps.zip us, (defScope st).names.lookup y.1 = some .local ∨ ((defScope st).names.lookup y.1 = some .cell ∧ ((cellsFrom (s.heap.objs.size + 1) (defScope st).names []).lookup y.1).isSome = true) := by
    rintro ⟨y, z⟩ hy
    have := Sc.par y (List.of_mem_zip hy).1
    exact this.elim Or.inl fun c => Or.inr ⟨c, PySem.W.cellsFrom_some _ _ _ (.inl c)⟩
  refine codeAny_call_function room.depth (KX _ _ lk) rfl Sc.co Sc.gen rfl (PySem.W.codeRec_of KX hcd) (binds _ _ _ _ ?_)
  refine wpAny_newFunctionEnv_cells Sc.kind kinds fun env he s1 inside => ?_
  subst he
  refine ⟨(e0.mod.nolimit.keeps there).keeps inside.toInCall.keep, codeAny_func ?_⟩
  obtain ⟨t, ht, hq⟩ := body cdv A outer s H vs Q E (room.deeper _) want
  refine wpAny_mono (ht.run [] s1 (L2.start N vs) H _ (L2H.inv_startH Sc pin e0 (len _ _ _ _ want) rel inside) hq) (fun fl s' got => ?_) fun _ _ z => z
  cases fl with
  | ret u =>
    obtain ⟨v, σ', H', J, rv, done⟩ := got
    exact ⟨v, H', J.os, J.bare, J.base, J.hok, rv, done⟩
  | next =>
    obtain ⟨σ', H', J, done⟩ := got
    exact ⟨.non, H', J.os, J.bare, J.base, J.hok, rfl, done⟩
  | brk => obtain ⟨_, _, _, z⟩ := got; exact z.elim
  | cont => obtain ⟨_, _, _, z⟩ := got; exact z.elim
end
end BW
namespace BW
open PySem PySem.Spec PyProof.Rows L2
section
variable {X : Cx} {cl : Str → Addr} {W : WX} {e : Pt}
theorem Fs.setN {K : PySem.W.Frag} {σ : L2.St} {H : Hp} {w : Wd} {ρ : BW.Env} {S : Store} {i : Nat} {v : V} {s : Slot} (f : Fs K cl e σ H w ρ S) (so : s.isOwn = false) (ok : SlotOk K w H s v) : Fs K cl e (σ.set i (some v)) H w (ρ.set i (some s)) S := by
  have no : ∀ {t : Slot}, (ρ.set i (some s))[i]? = some (some t) → t.isOwn = true → False := fun {t} ht ot => by
    by_cases hj : i < ρ.length
    · rw [List.getElem?_set_self hj] at ht; cases ht; rw [so] at ot; cases ot
    · rw [List.getElem?_eq_none (by simpa using Nat.le_of_not_lt hj)] at ht; cases ht
  refine ⟨f.ext, f.ok, ⟨by simp [f.env.len], fun j t ht => ?_, fun j l t t' u hjl hs ht os ot hj hl => ?_⟩, fun j t b hs os hj => ?_⟩
  · by_cases ej : j = i
    · subst ej
      have hj : j < ρ.length := by simpa using (List.getElem?_eq_some_iff.mp ht).1
      rw [List.getElem?_set_self hj] at ht
      cases ht
      exact ⟨v, by rw [List.getElem?_set_self (by rw [f.env.len]; exact hj)], ok⟩
    · rw [List.getElem?_set_ne (Ne.symm ej)] at ht ⊢
      exact f.env.slot j t ht
  · by_cases ej : j = i
    · subst ej; exact no hs os
    · by_cases el : l = i
      · subst el; exact no ht ot
      · rw [List.getElem?_set_ne (Ne.symm ej)] at hs hj
        rw [List.getElem?_set_ne (Ne.symm el)] at ht hl
        exact f.env.sep j l t t' u hjl hs ht os ot hj hl
  · by_cases ej : j = i
    · subst ej; exact (no hs os).elim
    · rw [List.getElem?_set_ne (Ne.symm ej)] at hs hj
      exact f.fr j t b hs os hj
def sTry (gb : Stm) (i : Nat) (cs : List Str) (FE : Str → BW.Env → Store → Res D) : Stm := fun ρ S => match gb ρ S with
  | .err c ρ' S' => if i < ρ'.length ∧ c ∈ cs then Out.of (noErr (FE c (ρ'.set i none) S')) ρ' fun d S1 => .ret d S1 else .bad
  | o => o
theorem mt_count : MtR X "list.count" (fun x xs H Q => ∃ (a : Addr) (ys : List V) (y : V), x = V.ref a ∧ xs = [y] ∧ SqL X.K H a ys ∧ flatV y = true ∧ ys.all flatV = true ∧ Q (.int ((ys.countP fun z => eqV z y : Nat) : Int)) H) := by
  intro pins s σ H x xs v us Q I rx rxs h
  obtain ⟨a, ys, y, rfl, rfl, hs, fy, fys, q⟩ := h
  cases rx
  match us, rxs with
  | [uy], .cons ry .nil =>
    obtain ⟨its, rv, ⟨⟨cls, dd, data, sl⟩, n, ho, hc, hdn, hd⟩, hlen⟩ := I.list hs
    simp only at hc hd
    subst hc hd
    have cnt : its.countP (eqU y) = ys.countP fun z => eqV z y := by
      clear ho hlen hs q hdn
      induction rv with
      | nil => rfl
      | cons r t ih =>
        rw [List.all_cons, Bool.and_eq_true] at fys
        rw [List.countP_cons, List.countP_cons, ih fys.2, eqU_of r fys.1]
    refine call_meets PySem.F.slot_list_count ⟨_, ho, rfl⟩ PySem.F.entry_list_count (PySem.F.args_list_count_2 _ _) (SeqAt.list_countAt a its.toArray n dd sl uy (eqU y)) ⟨ho, fun u' hu' => mem_eqAt ry fy rv fys u' (by simpa using hu'), ?_⟩
    refine ⟨.int _, H, I.kept (t' := _) fun _ _ z => z, ⟨_, rfl⟩, ?_⟩
    simpa [cnt] using q
def fMt (g : List D → List D → Store → Option D) (fo : BW.Env → Store → Res D) (fa : BW.Env → Store → Res (List D)) : BW.Env → Store → Res D := fun ρ S => (fo ρ S).bind fun d S1 => match d with
  | .lst l => (fa ρ S1).bind fun ds S2 => Res.of S2 (g l ds S2)
  | _ => .bad
def gCountT : List D → List D → Store → Option D
  | l, [.bl b], _ => (bools? l).map fun bs => .int ((bs.countP (· == b) : Nat) : Int)
  | _, _, _ => none
def gIndexT : List D → List D → Store → Option D
  | l, [.bl b], _ => (bools? l).bind fun bs => (bs.findIdx? (· == b)).map fun j => .int (j : Nat)
  | _, _, _ => none
theorem flat_bools (bs : List Bool) : (bs.map V.bl).all flatV = true := by
  rw [List.all_map]; exact List.all_eq_true.mpr fun _ _ => rfl
theorem eqV_bl (a b : Bool) : eqV (.bl a) (.bl b) = (a == b) := by cases a <;> cases b <;> rfl
section
variable {o ex : Expr} {apos cpos : Pos} {fo : BW.Env → Store → Res D} {fa : BW.Env → Store → Res (List D)}
theorem de_count (ho : DE X cl W o fo) (ha : DA X cl W [ex] fa) (hbase : attributeBase o "count" X.env (eval o X.env) = eval o X.env := by rfl)
    (hfew : ((backTo cpos (starEach [ex] X.env)).all (fun x => !x.1) && (backToKw cpos (keywordEach [] X.env)).all (fun x => x.1.isSome) && decide (([ex] : List Expr).length + ([] : List Keyword).length + (if ([] : List Keyword).isEmpty then 0 else 1) < 30)) = true := by rfl)
    (hline : (apos.endLine == cpos.line) = true := by rfl) (hs : starEach [ex] X.env = (false, eval ex X.env) :: starEach [] X.env := by rfl) (hplain : (backTo cpos (starEach [] X.env)).any (·.1) = false := by rfl) :
    DE X cl W (.Call (.Attribute o "count" apos) [ex] [] cpos) (fMt gCountT fo fa) := by
  refine PE.imp (pe_bm PySem.F.plainAttrs_list PySem.F.slot_list_count PySem.F.type_list_count mt_count ho ha hbase hfew hline hs hplain) fun σ H Q ⟨w, ρ, S, o, n, p⟩ => ?_
  refine tG.at o n (Post.bind p fun d S1 w1 v H1 e1 o1 r1 p1 => ?_)
  cases d with
  | lst l =>
    obtain ⟨a, vs, rfl, ha, ra⟩ := r1.lst_inv
    refine ⟨.inl ⟨rfl, vs, o1.sqL ha⟩, tG.at o1 (n.mono e1) (Post.bind p1 fun ds S2 w2 us H2 e2 o2 r2 p2 => ?_)⟩
    unfold gCountT at p2
    split at p2
    · rename_i b
      obtain ⟨u, rfl, ru⟩ := ra1 r2
      cases ru
      cases hb : bools? l with
      | none => rw [hb] at p2; exact p2.elim
      | some bs =>
        rw [hb] at p2
        have ev := bools_ra ra hb
        subst ev
        refine ⟨a, bs.map .bl, .bl b, rfl, rfl, (o2.sqL (e2.le.F _ _ ha)), rfl, flat_bools bs, ?_⟩
        rw [List.countP_map, show ((fun z => eqV z (.bl b)) ∘ V.bl) = (· == b) from funext fun z => eqV_bl z b]
        exact p2.here o2 (.int _)
    · exact p2.elim
  | _ => exact p1.elim
theorem de_index (ho : DE X cl W o fo) (ha : DA X cl W [ex] fa) (hbase : attributeBase o "index" X.env (eval o X.env) = eval o X.env := by rfl)
    (hfew : ((backTo cpos (starEach [ex] X.env)).all (fun x => !x.1) && (backToKw cpos (keywordEach [] X.env)).all (fun x => x.1.isSome) && decide (([ex] : List Expr).length + ([] : List Keyword).length + (if ([] : List Keyword).isEmpty then 0 else 1) < 30)) = true := by rfl)
    (hline : (apos.endLine == cpos.line) = true := by rfl) (hs : starEach [ex] X.env = (false, eval ex X.env) :: starEach [] X.env := by rfl) (hplain : (backTo cpos (starEach [] X.env)).any (·.1) = false := by rfl) :
    DE X cl W (.Call (.Attribute o "index" apos) [ex] [] cpos) (fMt gIndexT fo fa) := by
  refine PE.imp (pe_bm PySem.F.plainAttrs_list PySem.F.slot_list_index PySem.F.type_list_index mt_index ho ha hbase hfew hline hs hplain) fun σ H Q ⟨w, ρ, S, o, n, p⟩ => ?_
  refine tG.at o n (Post.bind p fun d S1 w1 v H1 e1 o1 r1 p1 => ?_)
  cases d with
  | lst l =>
    obtain ⟨a, vs, rfl, ha, ra⟩ := r1.lst_inv
    refine ⟨.inl ⟨rfl, vs, o1.sqL ha⟩, tG.at o1 (n.mono e1) (Post.bind p1 fun ds S2 w2 us H2 e2 o2 r2 p2 => ?_)⟩
    unfold gIndexT at p2
    split at p2
    · rename_i b
      obtain ⟨u, rfl, ru⟩ := ra1 r2
      cases ru
      cases hb : bools? l with
      | none => rw [hb] at p2; exact p2.elim
      | some bs =>
        rw [hb] at p2
        have ev := bools_ra ra hb
        subst ev
        cases hj : bs.findIdx? (· == b) with
        | none => simp only [Option.bind_some, hj] at p2; exact p2.elim
        | some j =>
          simp only [Option.bind_some, hj, Option.map_some] at p2
          obtain ⟨hlt, hyes, hno⟩ := List.findIdx?_eq_some_iff_getElem.mp hj
          refine ⟨a, bs.map .bl, .bl b, j, .bl bs[j], rfl, rfl, (o2.sqL (e2.le.F _ _ ha)), rfl, flat_bools bs, by simp [hlt], by rw [eqV_bl]; exact hyes, fun m z' hm hz => ?_, p2.here o2 (.int _)⟩
          rw [List.getElem?_map, List.getElem?_eq_getElem (Nat.lt_trans hm hlt)] at hz
          cases hz
          rw [eqV_bl]
          simpa using hno m hm
    · exact p2.elim
  | _ => exact p1.elim
end
end
end BW
namespace BW
open PySem PySem.Spec PyProof.Rows L2
section
variable {K : PySem.W.Frag} {w : Wd}
theorem RF.look {f : Str} : ∀ {vs : List (Str × V)} {ds : List (Str × D)} {d : D}, RF K w vs ds → ds.lookup f = some d → ∃ v, vs.lookup f = some v ∧ R K w v d
  | _, _, _, .nil, e => by cases e
  | _, _, _, .cons (k := k) (vs := vs) (ds := ds) r t, e => by
    rw [List.lookup_cons] at e ⊢
    cases hk : f == k with
    | true => rw [hk] at e; cases e; exact ⟨_, rfl, r⟩
    | false => rw [hk] at e; exact RF.look t e
theorem RF.lookN {f : Str} : ∀ {vs : List (Str × V)} {ds : List (Str × D)}, RF K w vs ds → ds.lookup f = none → vs.lookup f = none
  | _, _, .nil, _ => rfl
  | _, _, .cons (k := k) r t, e => by
    rw [List.lookup_cons] at e ⊢
    cases hk : f == k with
    | true => rw [hk] at e; cases e
    | false => rw [hk] at e; exact RF.lookN t e
theorem RF.length : ∀ {vs : List (Str × V)} {ds : List (Str × D)}, RF K w vs ds → vs.length = ds.length
  | _, _, .nil => rfl
  | _, _, .cons _ t => by simp [RF.length t]
def putFD (f : Str) (v : D) : List (Str × D) → List (Str × D)
  | [] => [(f, v)]
  | (g, x) :: r => if g = f then (g, v) :: r else (g, x) :: putFD f v r
theorem RF.put {f : Str} {v : V} {d : D} (h : R K w v d) : ∀ {vs : List (Str × V)} {ds : List (Str × D)}, RF K w vs ds → RF K w (putF f v vs) (putFD f d ds)
  | _, _, .nil => .cons h .nil
  | _, _, .cons (k := k) r t => by
    unfold putF putFD
    split
    · exact .cons h t
    · exact .cons r (RF.put h t)
theorem Ok.put {cl : Str → Addr} {S : Store} {H : Hp} {i : Nat} {c c' : Cell} {o : HO} (k : Ok K cl w S H) (hi : S[i]? = some c) (nz : ∀ q u, H (w.k i) ≠ some (.frz q u)) (new : CellOk K cl w (upd H (w.k i) o) (w.k i) c') : Ok K cl w (S.set i c') (upd H (w.k i) o) ∧ Ext w H w (upd H (w.k i) o) := by
  have il : i < S.length := (List.getElem?_eq_some_iff.mp hi).1
  have iw : i < w.n := by rw [k.len]; exact il
  obtain ⟨nf, co⟩ := k.cell i c hi
  refine ⟨⟨by simp [k.len], fun a u e => ?_, fun j d hj => ?_, k.inj⟩, ⟨Nat.le_refl _, fun _ _ => rfl, Same.refl _, fun a u e hk => ?_, fun a u e => ?_, fun a u e => .inl e, fun j h1 h2 => absurd (Nat.lt_of_lt_of_le h2 h1) (Nat.lt_irrefl _), fun a q u e => by rw [upd_ne (fun z => nz q u (by rw [← z]; exact e))]; exact e⟩⟩
  · have : a ≠ w.k i := fun z => by rw [z, nf] at e; cases e
    rw [upd_ne this]; exact k.sub a u e
  · by_cases e : j = i
    · subst e
      rw [List.getElem?_set_self il] at hj
      cases hj
      exact ⟨nf, new⟩
    · rw [List.getElem?_set_ne (Ne.symm e)] at hj
      obtain ⟨nf', co'⟩ := k.cell j d hj
      have jl : j < S.length := (List.getElem?_eq_some_iff.mp hj).1
      have ne : w.k j ≠ w.k i := fun z => e (k.inj j i (by rw [k.len]; exact jl) iw z)
      exact ⟨nf', co'.mono (Le.refl _) fun u hu => by rw [upd_ne ne]; exact hu⟩
  · rw [upd_ne (Ne.symm (hk i iw))]; exact e
  · by_cases z : a = w.k i
    · subst z; exact ⟨_, upd_same⟩
    · exact ⟨u, by rw [upd_ne z]; exact e⟩
end
/-- a class of the text, its instances' fields -/
structure ClsOk (K : PySem.W.Frag) (cl : Str → Addr) (c : Str) (fs : List Str) : Prop where
  cls : Cls K (cl c)
  no : ∀ f ∈ fs, NoAttr K (cl c) f
def insAt (c : Str) (d : D) (S : Store) : Option (Nat × List (Str × D)) := match d with
  | .ref i => match S[i]? with
    | some (.ins c' fs) => if c' = c then some (i, fs) else none
    | _ => none
  | _ => none
theorem insAt_inv {c : Str} {d : D} {S : Store} {i : Nat} {fs : List (Str × D)} (h : insAt c d S = some (i, fs)) : d = .ref i ∧ S[i]? = some (.ins c fs) := by
  unfold insAt at h
  split at h
  · split at h
    · split at h
      · rename_i e
        cases h
        subst e
        exact ⟨rfl, by assumption⟩
      · cases h
    · cases h
  · cases h
def fFld (c f : Str) (fo : BW.Env → Store → Res D) : BW.Env → Store → Res D := fun ρ S => (fo ρ S).bind fun d S1 => match insAt c d S1 with
  | some (_, fs) => Res.of S1 (fs.lookup f)
  | none => .bad
def sFldSet (c f : Str) (fo fv : BW.Env → Store → Res D) : Stm := fun ρ S => Out.of (fv ρ S) ρ fun y S1 => Out.of (fo ρ S1) ρ fun d S2 => match insAt c d S2 with
  | some (i, fs) => if fs.length < 1000 then .next ρ (S2.set i (.ins c (putFD f y fs))) else .bad
  | none => .bad
def fMeth (c mn : Str) (n : Nat) (m : List D → Store → Res D) (fo : BW.Env → Store → Res D) (fa : BW.Env → Store → Res (List D)) : BW.Env → Store → Res D := fun ρ S => (fo ρ S).bind fun d S1 => match insAt c d S1 with
  | some (_, fs) => if fs.lookup mn = none then (fa ρ S1).bind fun ds S2 => if (d :: ds).length = n then m (d :: ds) S2 else .bad else .bad
  | none => .bad
structure DfM (P : Program) (w : World) (K : PySem.W.Frag) (mg : Str → Option Value) (base : Heap) (cl : Str → Addr) (k : Nat) (c mn : Str) (ps : List Str) (m : List D → Store → Res D) : Prop where
  ex : ∃ f fd, FnOk P w K mg base (L2.CX P w) k f fd ps (spM K cl ps.length m) ∧ Meth K (cl c) mn f ∧ Binds K fd ps []
section
variable {X : Cx} {cl : Str → Addr} {W : WX} {e : Pt}
theorem de_fld {c f : Str} {fs : List Str} {ex : Expr} {pos : Pos} {fo : BW.Env → Store → Res D} (C : ClsOk X.K cl c fs) (hf : f ∈ fs) (h : DE X cl W ex fo) (hb : attributeBase ex f X.env (eval ex X.env) = eval ex X.env := by rfl) : DE X cl W (.Attribute ex f pos) (fFld c f fo) := by
  refine PE.imp (pe_fld h hb) fun σ H Q ⟨w, ρ, S, o, n, p⟩ => tG.at o n (Post.bind p fun d S1 w1 v H1 e1 o1 r1 p1 => ?_)
  split at p1
  · rename_i i gs hi
    obtain ⟨rfl, hs⟩ := insAt_inv hi
    obtain ⟨rfl, _⟩ := r1.ref_inv
    obtain ⟨_, dx, vs, ha, rf⟩ := o1.cell i _ hs
    cases hl : gs.lookup f with
    | none => rw [hl] at p1; exact p1.elim
    | some d =>
      rw [hl] at p1
      obtain ⟨u, hu, ru⟩ := rf.look hl
      exact ⟨_, _, dx, vs, u, rfl, ha, C.cls, C.no f hf, hu, p1.here o1 ru⟩
  · exact p1.elim
theorem ds_fld {c f : Str} {fs : List Str} {o v : Expr} {p1 pos : Pos} {fo fv : BW.Env → Store → Res D} (C : ClsOk X.K cl c fs) (hf : f ∈ fs) (ho : DE X cl W o fo) (hv : DE X cl W v fv) (hs : swapsWith v (some (.Attribute o f p1)) pos.line X.env = pure false := by rfl) :
    DS X cl e W (.Assign [.Attribute o f p1] v pos) (sFldSet c f fo fv) := by
  refine PS.imp (ps_fld ho hv hs) fun Z σ H ⟨w, ρ, S, fs0, p⟩ => ?_
  refine fs0.tG (PostS.expr p fs0 fun y S1 w1 u H1 e1 f1 r1 p1 => f1.tG (PostS.expr p1 f1 fun d S2 w2 x H2 e2 f2 r2 p2 => ?_))
  split at p2
  · rename_i i gs hi
    split at p2
    · rename_i hlen
      obtain ⟨rfl, hs2⟩ := insAt_inv hi
      obtain ⟨rfl, _⟩ := r2.ref_inv
      obtain ⟨_, dx, vs, ha, rf⟩ := f2.ok.cell i _ hs2
      refine ⟨_, _, dx, vs, rfl, ha, C.cls, C.no f hf, by rw [rf.length]; exact hlen, ?_⟩
      obtain ⟨o3, e3⟩ := f2.ok.put (c' := .ins c (putFD f y gs)) (o := .ins (cl c) dx (putF f u vs)) hs2 (fun q z e => by rw [ha] at e; cases e) ⟨dx, _, upd_same, rf.put (r1.mono e2.le)⟩
      exact p2 w2 σ _ (Le.refl _) (f2.on e3 o3)
    · exact p2.elim
  · exact p2.elim
theorem pe_methT {pl : Sem Bool} {k : Nat} {f C : Addr} {fd : FuncData} {ps : List Str} {sp : Sp} {E : L2.St → XK} {m : Str} {pos apos : Pos} {ex o : Expr} {es : List Expr} {ta : TE} {t : TA} (he : PE X o ta) (c : Cls X.K C) (hm : Meth X.K C m f) (F : FnOk X.prog X.w X.K X.mg X.base (L2.CX X.prog X.w) k f fd ps sp) (hr : Room k X.A) (hb : Binds X.K fd ps []) (hx : ∀ σ, PassesAt (L2.CX X.prog X.w) X σ (E σ)) (ha : PA X (ex :: es) t)
    (hst : starEach (ex :: es) X.env = (false, eval ex X.env) :: starEach es X.env) (hpl : (backTo pos (starEach es X.env)).any (·.1) = false)
    (ht : eval (.Call (.Attribute o m apos) (ex :: es) [] pos) X.env = (do
      let ov ← eval o X.env
      standAt apos.atName
      let (f, first) ← holding [ov] (getMethod ov m pl)
      callWith pos f first (backTo pos (starEach (ex :: es) X.env)) (backToKw pos (keywordEach [] X.env)))) :
    PE X (.Call (.Attribute o m apos) (ex :: es) [] pos) (L2H.tMethH C m sp E ta t) := by
  refine ⟨fun pins s σ H Q I h => PySem.W.methodCall_KW (pl := pl) (thn (he.run pins s σ H _ I h) fun u s1 got => ?_) ht⟩
  obtain ⟨x, H1, I1, rx, a, dx, fs, rfl, ea, l, q⟩ := got
  obtain rfl : u = Value.ref a := rx
  refine getmeth_ok I1 ea c hm l (PySem.W.callWith_K (first := [.ref a]) (h₀ := X.base) I.ok.mod.kin hm.kp (thn (ha.run pos pins s1 σ H1 _ I1 q) fun us s2 got2 => ?_) hst hpl)
  obtain ⟨vs, H2, I2, r, q2⟩ := got2
  exact ⟨I2.kIn, run_fnSD (ds := []) (dvs := []) (us := .ref a :: us) (vs := .ref a :: vs) (E := E) F hr hb .nil (hx σ) I2 (.cons rfl r) (by rw [List.append_nil]; exact q2)⟩
theorem pe_methT0 {pl : Sem Bool} {k : Nat} {f C : Addr} {fd : FuncData} {ps : List Str} {sp : Sp} {E : L2.St → XK} {m : Str} {pos apos : Pos} {o : Expr} {ta : TE} (he : PE X o ta) (c : Cls X.K C) (hm : Meth X.K C m f) (F : FnOk X.prog X.w X.K X.mg X.base (L2.CX X.prog X.w) k f fd ps sp) (hr : Room k X.A) (hb : Binds X.K fd ps []) (hx : ∀ σ, PassesAt (L2.CX X.prog X.w) X σ (E σ))
    (ht : eval (.Call (.Attribute o m apos) [] [] pos) X.env = (do
      let ov ← eval o X.env
      standAt apos.atName
      let (f, first) ← holding [ov] (getMethod ov m pl)
      callWith pos f first (backTo pos (starEach [] X.env)) (backToKw pos (keywordEach [] X.env)))) :
    PE X (.Call (.Attribute o m apos) [] [] pos) (L2H.tMethH C m sp E ta tNil) := by
  refine ⟨fun pins s σ H Q I h => PySem.W.methodCall_KW (pl := pl) (thn (he.run pins s σ H _ I h) fun u s1 got => ?_) ht⟩
  obtain ⟨x, H1, I1, rx, a, dx, fs, rfl, ea, l, q⟩ := got
  obtain rfl : u = Value.ref a := rx
  refine getmeth_ok I1 ea c hm l (PySem.W.callWith_K0 (first := [.ref a]) I1.kIn hm.kp ?_)
  exact run_fnSD (ds := []) (dvs := []) (us := [.ref a]) (vs := [.ref a]) (E := E) F hr hb .nil (hx σ) I1 (.cons rfl .nil) (by rw [List.append_nil]; exact q)
theorem de_meth {pl : Sem Bool} {k j n : Nat} {c m : Str} {fs ps : List Str} {mm : List D → Store → Res D} {pos apos : Pos} {ex o : Expr} {es : List Expr} {fo : BW.Env → Store → Res D} {fa : BW.Env → Store → Res (List D)} (G : DfM X.prog X.w X.K X.mg X.base cl k c m ps mm) (C : ClsOk X.K cl c fs) (hr : Room j X.A) (hj : k ≤ j) (tk : Takes X W) (ho : DE X cl W o fo) (ha : DA X cl W (ex :: es) fa) (hn : ps.length = n := by rfl)
    (hst : starEach (ex :: es) X.env = (false, eval ex X.env) :: starEach es X.env := by rfl) (hpl : (backTo pos (starEach es X.env)).any (·.1) = false := by rfl)
    (ht : eval (.Call (.Attribute o m apos) (ex :: es) [] pos) X.env = (do
      let ov ← eval o X.env
      standAt apos.atName
      let (f, first) ← holding [ov] (getMethod ov m pl)
      callWith pos f first (backTo pos (starEach (ex :: es) X.env)) (backToKw pos (keywordEach [] X.env))) := by rfl) :
    DE X cl W (.Call (.Attribute o m apos) (ex :: es) [] pos) (fMeth c m n mm fo fa) := by
  subst hn
  obtain ⟨f, fd, F, hm, hb⟩ := G.ex
  refine PE.imp (pe_methT ho C.cls hm F (hr.mono hj) hb (fun σ => passAt tk σ) ha hst hpl ht) fun σ H Q ⟨w, ρ, S, o, n, p⟩ => tG.at o n (Post.bind p fun d S1 w1 v H1 e1 o1 r1 p1 => ?_)
  split at p1
  · rename_i i gs hi
    split at p1
    · rename_i hl
      obtain ⟨rfl, hs⟩ := insAt_inv hi
      obtain ⟨rfl, _⟩ := r1.ref_inv
      obtain ⟨_, dx, vs, hc, rf⟩ := o1.cell i _ hs
      refine ⟨_, dx, vs, rfl, hc, rf.lookN hl, tG.at o1 (n.mono e1) (Post.bind p1 fun ds S2 w2 us H2 e2 o2 r2 p2 => ?_)⟩
      split at p2
      · rename_i hlen
        exact ⟨w2, S2, _, o2, .cons (r1.mono e2.le) r2, hlen, Post.w p2 fun _ _ z => z⟩
      · exact p2.elim
    · exact p1.elim
  · exact p1.elim
theorem de_meth0 {pl : Sem Bool} {k j n : Nat} {c m : Str} {fs ps : List Str} {mm : List D → Store → Res D} {pos apos : Pos} {o : Expr} {fo : BW.Env → Store → Res D} (G : DfM X.prog X.w X.K X.mg X.base cl k c m ps mm) (C : ClsOk X.K cl c fs) (hr : Room j X.A) (hj : k ≤ j) (tk : Takes X W) (ho : DE X cl W o fo) (hn : ps.length = n := by rfl)
    (ht : eval (.Call (.Attribute o m apos) [] [] pos) X.env = (do
      let ov ← eval o X.env
      standAt apos.atName
      let (f, first) ← holding [ov] (getMethod ov m pl)
      callWith pos f first (backTo pos (starEach [] X.env)) (backToKw pos (keywordEach [] X.env))) := by rfl) :
    DE X cl W (.Call (.Attribute o m apos) [] [] pos) (fMeth c m n mm fo fNil) := by
  subst hn
  obtain ⟨f, fd, F, hm, hb⟩ := G.ex
  refine PE.imp (pe_methT0 ho C.cls hm F (hr.mono hj) hb (fun σ => passAt tk σ) ht) fun σ H Q ⟨w, ρ, S, o, n, p⟩ => tG.at o n (Post.bind p fun d S1 w1 v H1 e1 o1 r1 p1 => ?_)
  split at p1
  · rename_i i gs hi
    split at p1
    · rename_i hl
      obtain ⟨rfl, hs⟩ := insAt_inv hi
      obtain ⟨rfl, _⟩ := r1.ref_inv
      obtain ⟨_, dx, vs, hc, rf⟩ := o1.cell i _ hs
      refine ⟨_, dx, vs, rfl, hc, rf.lookN hl, ?_⟩
      unfold fNil at p1
      simp only [bind_ok] at p1
      split at p1
      · rename_i hlen
        exact ⟨w1, S1, _, o1, .cons r1 .nil, hlen, Post.w p1 fun _ _ z => z⟩
      · exact p1.elim
    · exact p1.elim
  · exact p1.elim
end
end BW
namespace BW
open PySem PySem.Spec PyProof.Rows L2
section
variable {X : Cx} {cl : Str → Addr} {W : WX} {e : Pt}
def gInX (neg : Bool) : D → D → Store → Option D := fun d x S => match x with
  | .dic kvs => (keyD d).map fun k => .bl (xor neg (valD kvs k).isSome)
  | .ref n => match S[n]? with
    | some (.dic kvs) => (keyD d).map fun k => .bl (xor neg (valD kvs k).isSome)
    | some (.dicL kvs) => (keyD d).map fun k => .bl (xor neg (valD kvs k).isSome)
    | _ => none
  | x => gIn neg d x S
theorem op_din (hu : X.A.units + 1 < cLine) : OpR X (compareOp .In) (fun y x H Q => ∃ a o, x = .ref a ∧ DGet H a y o ∧ Q (.bl o.isSome) H) := by
  intro pins s σ H y x u v Q I ry rx ⟨a, o, ex, g, q⟩
  subst ex
  cases rx
  exact d_in hu I g ry fun s' I' => ⟨.bl o.isSome, H, I', rfl, q⟩
theorem op_dnotin (hu : X.A.units + 1 < cLine) : OpR X (compareOp .NotIn) (fun y x H Q => ∃ a o, x = .ref a ∧ DGet H a y o ∧ Q (.bl (!o.isSome)) H) := by
  intro pins s σ H y x u v Q I ry rx ⟨a, o, ex, g, q⟩
  subst ex
  cases rx
  exact d_notIn hu I g ry fun s' I' => ⟨.bl (!o.isSome), H, I', rfl, q⟩
theorem RK.isSome {K : PySem.W.Frag} {w : Wd} {vs : List (Key × V)} {ds : List (Key × D)} (k : Key) (r : RK K w vs ds) : (valV vs k).isSome = (valD ds k).isSome := by
  rcases r.val (k := k) with ⟨h1, h2⟩ | ⟨v, d, h1, h2, _⟩ <;> rw [h1, h2] <;> rfl
/-- reading a dict: its keys -/
theorem dget_of {w : Wd} {S : Store} {H : Hp} {v u : V} {d x z : D} {neg : Bool} (k : Ok X.K cl w S H) (r1 : R X.K w v d) (r2 : R X.K w u x) (hg : gInX neg d x S = some z) (hx : (∃ l, x = .dic l) ∨ ∃ n, x = .ref n) : ∃ a o, u = .ref a ∧ DGet H a v o ∧ z = .bl (xor neg o.isSome) := by
  rcases hx with ⟨l, rfl⟩ | ⟨n, rfl⟩
  · obtain ⟨a, vs, rfl, ha, ra⟩ := r2.dic_inv
    simp only [gInX, Option.map_eq_some_iff] at hg
    obtain ⟨key, hk, rfl⟩ := hg
    refine ⟨a, valV vs key, rfl, .inl ⟨vs, key, Rd.mono k.sub ha, keyD_v r1 hk, rfl⟩, ?_⟩
    rw [ra.isSome]
  · obtain ⟨rfl, hn⟩ := r2.ref_inv
    simp only [gInX] at hg
    split at hg
    · rename_i l hl
      obtain ⟨_, vs, hc, ra⟩ := k.cell n _ hl
      simp only [Option.map_eq_some_iff] at hg
      obtain ⟨key, hk, rfl⟩ := hg
      refine ⟨_, valV vs key, rfl, .inl ⟨vs, key, .inl hc, keyD_v r1 hk, rfl⟩, ?_⟩
      rw [ra.isSome]
    · rename_i l hl
      obtain ⟨_, o, vs, hc, ra⟩ := k.cell n _ hl
      simp only [Option.map_eq_some_iff] at hg
      obtain ⟨key, hk, rfl⟩ := hg
      refine ⟨_, valV vs key, rfl, .inl ⟨vs, key, .inr ⟨o, hc⟩, keyD_v r1 hk, rfl⟩, ?_⟩
      rw [ra.isSome]
    · cases hg
theorem gInX_old {neg : Bool} {d x : D} {S : Store} (h1 : ∀ l, x ≠ .dic l) (h2 : ∀ n, x ≠ .ref n) : gInX neg d x S = gIn neg d x S := by
  cases x <;> first | rfl | exact absurd rfl (h1 _) | exact absurd rfl (h2 _)
theorem o_inX (hu : X.A.units + 65 < cLine) : OpR X (compareOp .In) (r2 X.K cl (gInX false)) := by
  refine of2 (OpR.or (o_in (cl := cl) hu) (op_din (by omega))) fun x y H Q w S d e z k r1 r2 hg q => ?_
  by_cases h : (∃ l, e = .dic l) ∨ ∃ n, e = .ref n
  · obtain ⟨a, o, rfl, g, rfl⟩ := dget_of k r1 r2 hg h
    refine .inr ⟨a, o, rfl, g, ?_⟩
    have := q w _ H (Ext.refl _ _) k (.bl _)
    simpa using this
  · rw [gInX_old (fun l z => h (.inl ⟨l, z⟩)) fun n z => h (.inr ⟨n, z⟩)] at hg
    exact .inl ⟨w, S, d, e, z, k, r1, r2, hg, q⟩
theorem o_notinX (hu : X.A.units + 65 < cLine) : OpR X (compareOp .NotIn) (r2 X.K cl (gInX true)) := by
  refine of2 (OpR.or (o_notin (cl := cl) hu) (op_dnotin (by omega))) fun x y H Q w S d e z k r1 r2 hg q => ?_
  by_cases h : (∃ l, e = .dic l) ∨ ∃ n, e = .ref n
  · obtain ⟨a, o, rfl, g, rfl⟩ := dget_of k r1 r2 hg h
    refine .inr ⟨a, o, rfl, g, ?_⟩
    have := q w _ H (Ext.refl _ _) k (.bl _)
    simpa using this
  · rw [gInX_old (fun l z => h (.inl ⟨l, z⟩)) fun n z => h (.inr ⟨n, z⟩)] at hg
    exact .inl ⟨w, S, d, e, z, k, r1, r2, hg, q⟩
/-- what an expression gives, locked for good -/
theorem PE.lkA {ex : Expr} {t : TE} (h : PE X ex t) : PE X ex (fun σ H Q => t σ H fun v H' => ∃ d u, H' d = some u ∧ Mut (some u) ∧ ∀ od, Q v (upd H' d (.frz od u))) := ⟨fun pins s σ H Q I q => thn (h.run pins s σ H _ I q) fun u s1 ⟨x, H1, I1, r, d, o, hd, mu, q1⟩ => by
  obtain ⟨od, I2⟩ := I1.lock hd mu
  exact ⟨x, _, I2, r, q1 od⟩⟩
theorem upd_upd (H : Hp) (a : Addr) (o o' : HO) : upd (upd H a o) a o' = upd H a o' := by
  funext b
  by_cases h : b = a
  · subst h; rw [upd_same, upd_same]
  · rw [upd_ne h, upd_ne h, upd_ne h]
theorem de_dic0 {pos : Pos} : DE X cl W (.Dict [] [] pos) (fC (.dic [])) := by
  refine PE.imp (PE.lkA pe_dnewK) fun σ H Q ⟨w, ρ, S, o, n, p⟩ q hq => ⟨q, _, upd_same, trivial, fun od => ?_⟩
  rw [upd_upd]
  obtain ⟨e1, o1, r1⟩ := o.layD (q := od) hq .nil
  exact p.okT e1 o1 r1
/-- an own dict, just made -/
def PostD (K : PySem.W.Frag) (cl : Str → Addr) (W : WX) (σ : L2.St) (w : Wd) (H : Hp) (r : Res (List (Key × D))) (Q : VK) : Prop := match r with
  | .ok l S' => ∀ w' a vs H', Ext w H w' H' → Ok K cl w' S' H' → H a = none → H' a = some (.dK vs) → Hid w' a → RK K w' vs l → Q (.ref a) H'
  | .err c S' => ∀ w' H', Ext w H w' H' → Ok K cl w' S' H' → W (.ref (cl c)) none σ H'
  | .bad => False
abbrev DDc (X : Cx) (cl : Str → Addr) (W : WX) (ex : Expr) (f : BW.Env → Store → Res (List (Key × D))) : Prop := PE X ex (fun σ H Q => ∃ w ρ S, Ok X.K cl w S H ∧ EnvR X.K w H σ ρ ∧ PostD X.K cl W σ w H (f ρ S) Q)
def fDict (fa : BW.Env → Store → Res (List D)) : BW.Env → Store → Res (List (Key × D)) := fun ρ S => (fa ρ S).bind fun ds S1 => match ds with
  | [.dic l] => .ok l S1
  | _ => .bad
theorem PostD.bind {K : PySem.W.Frag} {α β : Type} {Rl : Wd → β → α → Prop} {σ : L2.St} {w : Wd} {H : Hp} {r : Res α} {k : α → Store → Res (List (Key × D))} {Q : VK} {Q1 : β → Hp → Prop} (h : PostD K cl W σ w H (r.bind k) Q)
    (hk : ∀ d S1 w1 v H1, Ext w H w1 H1 → Ok K cl w1 S1 H1 → Rl w1 v d → PostD K cl W σ w H (k d S1) Q → Q1 v H1) : Post K cl W σ Rl w H r Q1 := by
  cases r with
  | ok d S => exact fun w1 v H1 e1 o1 r1 => hk d S w1 v H1 e1 o1 r1 h
  | err c S => exact h
  | bad => exact h
theorem dd_dict {p pos : Pos} {a : Expr} {fa : BW.Env → Store → Res (List D)} (ha : DA X cl W [a] fa) (hg : Gl X "dict") (hm : X.mg "dict" = none) (he : starEach [a] X.env = (false, eval a X.env) :: starEach [] X.env := by rfl) (hpl : (backTo pos (starEach [] X.env)).any (·.1) = false := by rfl) :
    DDc X cl W (.Call (.Name "dict" p) [a] [] pos) (fDict fa) := by
  refine PE.imp (pe_callTy call_dictD hg hm (by decide +kernel) ha (he := he) (hpl := hpl)) fun σ H Q ⟨w, ρ, S, o, n, p⟩ => ?_
  refine tG.at o n (PostD.bind p fun ds S1 w1 xs H1 e1 o1 r1 p1 => ?_)
  split at p1
  · obtain ⟨v, rfl, rv⟩ := ra1 r1
    obtain ⟨a, vs, rfl, h1, h2⟩ := rv.dic_inv
    refine ⟨a, vs, rfl, Rd.mono o1.sub h1, fun q hq => ?_⟩
    exact p1 w1 q vs _ (e1.trans ((Ext.refl _ _).mut hq)) (o1.mut (o1.hid hq)) (e1.back hq) upd_same (o1.hid hq) h2
  · exact p1.elim
def sSetOwnD (i : Nat) (f : BW.Env → Store → Res (List (Key × D))) : Stm := fun ρ S => Out.of (f ρ S) ρ fun l S1 => .next (ρ.set i (some (.ownd l))) S1
theorem ds_setOwnD {i : Nat} {x : Str} {ex : Expr} {pos pos' : Pos} {f : BW.Env → Store → Res (List (Key × D))} (hN : X.N.Nodup) (hi : X.N[i]? = some x) (hx : Loc X.env.scope x) (h : DDc X cl W ex f) (hs : swapsWith ex (some (.Name x pos')) pos.line X.env = pure false := by rfl)
    (hf : X.fn x = true ∨ X.env.scope.names.lookup x = some .local := by first | exact .inl rfl | exact .inr rfl | assumption) : DS X cl e W (.Assign [.Name x pos'] ex pos) (sSetOwnD i f) := by
  refine PS.imp (ps_set hN hi hx h hs hf) fun Z σ H ⟨w, ρ, S, fs, p⟩ => ⟨w, ρ, S, fs.ok, fs.env, ?_⟩
  unfold sSetOwnD at p
  cases hf : f ρ S with
  | bad => simp only [hf, Out.of] at p; exact p
  | err c S1 => simp only [hf, Out.of] at p; exact fun w' H' x o => p w' σ H' x.le (fs.on x o)
  | ok l S1 =>
    simp only [hf, Out.of] at p
    intro w1 a vs H1 e1 o1 ha h1 hid ra
    refine p w1 _ H1 e1.le ((fs.on e1 o1).setOwn rfl ⟨a, vs, rfl, h1, ra, hid⟩ (fs.ext.back ha) fun j t hj ht hji hv => ?_)
    obtain ⟨v, hv', so⟩ := fs.env.slot j t hj
    rw [hv] at hv'
    cases hv'
    cases t with
    | dat d => cases ht
    | adr a => cases ht
    | own l2 => obtain ⟨b, us, eb, hb, _⟩ := so; cases eb; rw [ha] at hb; cases hb
    | ownd l2 => obtain ⟨b, us, eb, hb, _⟩ := so; cases eb; rw [ha] at hb; cases hb
def sPutOwnD (i : Nat) (fb fe : BW.Env → Store → Res D) : Stm := fun ρ S => Out.of (fe ρ S) ρ fun d S1 => match ρ[i]? with
  | some (some (.ownd l)) => Out.of (fb ρ S1) ρ fun b S2 => match keyD b with
    | some k => if l.length < LIM then .next (ρ.set i (some (.ownd (putD l k d)))) S2 else .bad
    | none => .bad
  | _ => .bad
theorem ds_putOwnD {i : Nat} {x : Str} {p tpos pos : Pos} {b ex : Expr} {fb fe : BW.Env → Store → Res D} (hu : X.A.units + 1 < cLine) (hv : PE X (.Name x p) (tVar i)) (hb : DE X cl W b fb) (he : DE X cl W ex fe) (hs : swapsWith ex (some (.Subscript (.Name x p) b tpos)) pos.line X.env = pure false := by rfl) :
    DS X cl e W (.Assign [.Subscript (.Name x p) b tpos] ex pos) (sPutOwnD i fb fe) := by
  refine PS.imp (ps_dput hu hv hb he hs) fun Z σ H ⟨w, ρ, S, fs, q⟩ => fs.tG (PostS.expr q fs fun d S1 w1 v H1 e1 f1 r1 p1 => ?_)
  split at p1
  · rename_i l hl
    obtain ⟨u, hu, a, vs, rfl, ha, ra, hid⟩ := f1.env.slot i _ hl
    refine ⟨_, hu, f1.tG (PostS.expr p1 f1 fun b S2 w2 y H2 e2 f2 r2 p2 => ?_)⟩
    have ha2 := e2.keep a _ ha hid.nK
    have hid2 := hid.mono e2 ha
    split at p2
    · rename_i k hk
      split at p2
      · rename_i hlt
        refine ⟨a, _, rfl, .inl ⟨vs, k, ha2, keyD_v r2 hk, lim_lt (by rw [ra.length]; exact hlt), rfl⟩, ?_⟩
        exact p2 w2 σ _ (Le.refl _) (f2.mutOwn hl rfl hu hid2 rfl ⟨a, _, rfl, upd_same, RK.put (r1.mono e2.le) (ra.mono e2.le), hid2⟩)
      · exact p2.elim
    · exact p2.elim
  · exact p1.elim
end
end BW
namespace BW
open PySem PySem.Spec PyProof.Rows L2
def Wd.new (w : Wd) (x : Addr) : Wd := { n := w.n + 1, k := fun i => if i = w.n then x else w.k i, F := w.F }
section
variable {K : PySem.W.Frag} {cl : Str → Addr} {w : Wd} {S : Store} {H : Hp}
theorem Le.new (w : Wd) (x : Addr) : Le w (w.new x) := ⟨Nat.le_succ _, fun i hi => by show (if i = w.n then x else w.k i) = _; rw [if_neg (Nat.ne_of_lt hi)], Same.refl _⟩
theorem Ok.made {c : Str} {x dx : Addr} (k : Ok K cl w S H) (hx : H x = none) (hd : H dx = none) (ne : dx ≠ x) :
    Ext w H (w.new x) (upd (upd H dx (.own x)) x (.ins (cl c) dx [])) ∧ Ok K cl (w.new x) (S ++ [.ins c []]) (upd (upd H dx (.own x)) x (.ins (cl c) dx [])) := by
  have old : ∀ a o, H a = some o → upd (upd H dx (.own x)) x (.ins (cl c) dx []) a = some o := fun a o e => by
    rw [upd_ne (ne_of_none e hx), upd_ne (ne_of_none e hd)]; exact e
  have kx : ∀ i, i < w.n → w.k i ≠ x := fun i hi z => by
    obtain ⟨c', hc⟩ : ∃ c', S[i]? = some c' := ⟨S[i]'(by rw [← k.len]; exact hi), by simp [← k.len, hi]⟩
    obtain ⟨o, ho⟩ := (k.cell i _ hc).2.there
    rw [z, hx] at ho; cases ho
  refine ⟨⟨(Le.new w x).n, (Le.new w x).k, Same.refl _, fun a o e _ => old a o e, fun a o e => ⟨o, old a o e⟩, fun a o e => .inl e, fun i h1 h2 => ?_, fun a q u e => old a _ e⟩, ⟨?_, fun a o e => ?_, fun i c' hi => ?_, fun i j hi hj e => ?_⟩⟩
  · have h3 : i < w.n + 1 := h2
    have : i = w.n := by omega
    subst this
    show H (if w.n = w.n then x else _) = none
    rw [if_pos rfl]; exact hx
  · show w.n + 1 = _
    simp [k.len]
  · exact old a o (k.sub a o e)
  · by_cases q : i < S.length
    · rw [List.getElem?_append_left q] at hi
      obtain ⟨h1, h2⟩ := k.cell i c' hi
      have e : (w.new x).k i = w.k i := (Le.new w x).k i (by rw [k.len]; exact q)
      rw [e]
      exact ⟨h1, h2.mono (Le.new w x) fun o ho => old _ o ho⟩
    · have il : i = S.length := by
        have := (List.getElem?_eq_some_iff.mp hi).1
        simp at this
        omega
      subst il
      rw [List.getElem?_append_right (Nat.le_refl _), Nat.sub_self] at hi
      cases hi
      have e : (w.new x).k S.length = x := by
        show (if S.length = w.n then x else _) = x
        rw [if_pos k.len.symm]
      rw [e]
      refine ⟨?_, dx, [], upd_same, .nil⟩
      cases hF : w.F x with
      | none => exact hF
      | some o => rw [k.sub _ _ hF] at hx; cases hx
  · have hi' : i < w.n + 1 := hi
    have hj' : j < w.n + 1 := hj
    have e' : (if i = w.n then x else w.k i) = (if j = w.n then x else w.k j) := e
    by_cases a : i = w.n <;> by_cases b : j = w.n
    · omega
    · rw [if_pos a, if_neg b] at e'
      exact absurd e'.symm (kx j (by omega))
    · rw [if_neg a, if_pos b] at e'
      exact absurd e' (kx i (by omega))
    · rw [if_neg a, if_neg b] at e'
      exact k.inj i j (by omega) (by omega) e'
end
section
variable {X : Cx} {cl : Str → Addr} {W : WX} {e : Pt}
structure DfC (P : Program) (w : World) (K : PySem.W.Frag) (mg : Str → Option Value) (base : Heap) (cl : Str → Addr) (k : Nat) (c : Str) (ps : List Str) (m : List D → Store → Res D) : Prop where
  ex : ∃ f fd, Mk K (cl c) f ∧ FnOk P w K mg base (L2.CX P w) k f fd ps (spM K cl ps.length m) ∧ mg c = some (.ref (cl c)) ∧ Binds K fd ps []
def fMake (c : Str) (n : Nat) (m : List D → Store → Res D) (fa : BW.Env → Store → Res (List D)) : BW.Env → Store → Res D := fun ρ S => (fa ρ S).bind fun ds S1 => if ds.length + 1 = n then (m (.ref S1.length :: ds) (S1 ++ [.ins c []])).bind fun r S2 => (match r with
  | .non => .ok (.ref S1.length) S2
  | _ => .bad) else .bad
theorem run_makeT {k : Nat} {f C : Addr} {fd : FuncData} {ps : List Str} {sp : Sp} {E : XK} {pins : List (Addr × Obj)} {σ : L2.St} {H : Hp} {s : Shared} {Q : VK} {us : List Value} {vs : List V} (M : Mk X.K C f) (F : FnOk X.prog X.w X.K X.mg X.base (L2.CX X.prog X.w) k f fd ps sp) (hr : Room (k + 1) X.A) (hb : Binds X.K fd ps [])
    (hx : PassesAt (L2.CX X.prog X.w) X σ E) (I : Inv X pins σ H s) (r : Vals vs us)
    (want : ∀ x dx, H x = none → H dx = none → dx ≠ x → sp (.ref x :: vs) (upd (upd H dx (.own x)) x (.ins C dx [])) (fun v H2 => v = .non ∧ Q (.ref x) H2) E) : wpAny (model X.prog X.w) X.A (call (.ref C) us) (EP X pins σ Q) X.xe s := by
  have w0 := want (s.heap.objs.size + 1) s.heap.objs.size (I.hok.fresh (Nat.le_succ _)) (I.hok.fresh (Nat.le_refl _)) (Nat.ne_of_lt (Nat.lt_succ_self _))
  have J := Inv.made (C := C) I
  have rel : Vals (V.ref (s.heap.objs.size + 1) :: vs) (Value.ref (s.heap.objs.size + 1) :: us) := .cons rfl r
  have many : (Value.ref (s.heap.objs.size + 1) :: us).length = ps.length := by
    rw [← rel.length]; exact F.len _ _ _ _ w0
  have bt := hb _ (Value.ref (s.heap.objs.size + 1) :: us) J.kIn (by rw [List.append_nil]; exact many)
  rw [List.append_nil] at bt
  have go := F.run _ X.stack _ _ ⟨Value.ref (s.heap.objs.size + 1) :: us, []⟩ _ _ _ E (hr.make C us []) (J.env0.make C us []) bt rel w0
  refine wpAny_call (make_map (f := f) I.kIn M.makes M.init (beq_iff_eq.mp M.fn) (codeAny_mono go fun r s' got => ?_))
  match r, got with
  | .error u, got => exact hx pins _ _ u s' J got
  | .ok (.ret u), got =>
    obtain ⟨v, H', J3, rv, ev, q3⟩ := J.after got
    subst ev
    exact ⟨rv, V.ref (s.heap.objs.size + 1), H', J3, rfl, q3⟩
theorem de_make {k j n : Nat} {c : Str} {ps : List Str} {m : List D → Store → Res D} {p pos : Pos} {ex : Expr} {es : List Expr} {fa : BW.Env → Store → Res (List D)} (G : DfC X.prog X.w X.K X.mg X.base cl k c ps m) (hr : Room j X.A) (hj : k + 1 ≤ j) (hg : Gl X c) (tk : Takes X W) (ha : DA X cl W (ex :: es) fa) (hn : ps.length = n := by rfl)
    (hdb : (c == ("__debug__" : Str)) = false := by decide) (he : starEach (ex :: es) X.env = (false, eval ex X.env) :: starEach es X.env := by rfl) (hpl : (backTo pos (starEach es X.env)).any (·.1) = false := by rfl) :
    DE X cl W (.Call (.Name c p) (ex :: es) [] pos) (fMake c n m fa) := by
  subst hn
  obtain ⟨f, fd, M, F, hm, hb⟩ := G.ex
  refine ⟨fun pins s σ H Q I h => wpAny_Call_Name_kw (ld_glob I hg hm ?_ hdb)⟩
  have hA := ha.run pos pins s σ H (fun vs H1 => ∀ x dx, H1 x = none → H1 dx = none → dx ≠ x → spM X.K cl ps.length m (.ref x :: vs) (upd (upd H1 dx (.own x)) x (.ins (cl c) dx [])) (fun v H2 => v = .non ∧ Q (.ref x) H2) (WE W σ)) I ?_
  · refine PySem.W.callWith_K (h₀ := X.base) I.ok.mod.kin M.kp (thn hA fun us s1 got => ?_) he hpl
    obtain ⟨vs, H1, I1, r, q⟩ := got
    exact ⟨I1.kIn, run_makeT M F (hr.mono hj) hb (passAt tk σ) I1 r q⟩
  · obtain ⟨w, ρ, S, o, n, q⟩ := h
    refine tG.at o n (Post.bind q fun ds S1 w1 vs H1 e1 o1 r1 p1 x dx hx hd ne => ?_)
    split at p1
    · rename_i hl
      obtain ⟨e2, o2⟩ := o1.made (c := c) hx hd ne
      have kx : (w1.new x).k S1.length = x := by
        show (if S1.length = w1.n then x else _) = x
        rw [if_pos o1.len.symm]
      have rx : R X.K (w1.new x) (.ref x) (.ref S1.length) := by
        have := R.ref (K := X.K) (w := w1.new x) (i := S1.length) (by show _ < w1.n + 1; rw [o1.len]; omega)
        rw [kx] at this
        exact this
      refine ⟨w1.new x, S1 ++ [.ins c []], .ref S1.length :: ds, o2, .cons rx (r1.mono e2.le), by simpa using hl, ?_⟩
      cases hmr : m (.ref S1.length :: ds) (S1 ++ [.ins c []]) with
      | bad => rw [hmr] at p1; exact p1
      | err c' S2 => rw [hmr] at p1; exact fun w2 H2 x2 y2 => p1 w2 H2 (e2.trans x2) y2
      | ok d S2 =>
        rw [hmr] at p1
        intro w2 v H2 e3 o3 r3
        cases d with
        | non =>
          cases r3
          exact ⟨rfl, p1 w2 _ H2 (e2.trans e3) o3 (rx.mono e3.le)⟩
        | _ => exact p1.elim
    · exact p1.elim
end
end BW
namespace BW
open PySem PySem.Spec PyProof.Rows L2
abbrev leS (a b : Str) : Prop := a.cps.toList ≤ b.cps.toList
theorem leS_iff (a b : Str) : ltCps b.cps.toList a.cps.toList = false ↔ leS a b := by
  rw [ltCps_eq]
  simp [leS, List.not_lt]
theorem leS_anti {a b : Str} (h1 : leS a b) (h2 : leS b a) : a = b := by
  have e : a.cps.toList = b.cps.toList := List.le_antisymm h1 h2
  cases a; cases b
  simp only at e
  congr 1
  exact Array.ext' e
theorem leS_trans {a b c : Str} (h1 : leS a b) (h2 : leS b c) : leS a c := List.le_trans h1 h2
theorem leS_total (a b : Str) : leS a b ∨ leS b a := List.le_total _ _
theorem rising_pair : ∀ (l : List Str) (p : Str), risingS p l = true → (p :: l).Pairwise leS
  | [], p, _ => by simp
  | x :: l, p, h => by
    simp only [risingS, Bool.and_eq_true, Bool.not_eq_true'] at h
    have px := (leS_iff p x).mp h.1
    have ih := rising_pair l x h.2
    refine List.pairwise_cons.mpr ⟨fun z hz => ?_, ih⟩
    rcases List.mem_cons.mp hz with e | e
    · rw [e]; exact px
    · exact leS_trans px ((List.pairwise_cons.mp ih).1 z e)
theorem sorted_pair {l : List Str} (h : sortedS l = true) : l.Pairwise leS := by
  cases l with
  | nil => exact .nil
  | cons x l => exact rising_pair l x h
theorem perm_eqS : ∀ {a b : List Str}, a.Perm b → a.Pairwise leS → b.Pairwise leS → a = b
  | [], b, p, _, _ => by rw [List.nil_perm.mp p]
  | x :: a, [], p, _, _ => by have := p.length_eq; simp at this
  | x :: a, y :: b, p, ha, hb => by
    obtain ⟨a1, a2⟩ := List.pairwise_cons.mp ha
    obtain ⟨b1, b2⟩ := List.pairwise_cons.mp hb
    have hx : x ∈ y :: b := p.mem_iff.mp List.mem_cons_self
    have hy : y ∈ x :: a := p.mem_iff.mpr List.mem_cons_self
    have e : x = y := by
      rcases List.mem_cons.mp hx with e | e
      · exact e
      · rcases List.mem_cons.mp hy with f | f
        · exact f.symm
        · exact leS_anti (a1 y f) (b1 x e)
    subst e
    rw [perm_eqS ((List.perm_cons x).mp p) a2 b2]
def insS (x : Str) : List Str → List Str
  | [] => [x]
  | y :: l => if ltCps y.cps.toList x.cps.toList = false then x :: y :: l else y :: insS x l
def ssort : List Str → List Str
  | [] => []
  | x :: l => insS x (ssort l)
theorem insS_perm (x : Str) : ∀ l, (insS x l).Perm (x :: l)
  | [] => .refl _
  | y :: l => by
    unfold insS
    split
    · exact .refl _
    · exact ((insS_perm x l).cons y).trans (.swap x y l)
theorem ssort_perm : ∀ l, (ssort l).Perm l
  | [] => .refl _
  | x :: l => (insS_perm x (ssort l)).trans ((ssort_perm l).cons x)
theorem insS_le (x : Str) : ∀ l : List Str, l.Pairwise leS → (insS x l).Pairwise leS
  | [], _ => by simp [insS]
  | y :: l, h => by
    unfold insS
    obtain ⟨h1, h2⟩ := List.pairwise_cons.mp h
    split
    · rename_i hx
      have hx' := (leS_iff x y).mp hx
      exact List.pairwise_cons.mpr ⟨fun z hz => by
        rcases List.mem_cons.mp hz with e | e
        · rw [e]; exact hx'
        · exact leS_trans hx' (h1 z e), h⟩
    · rename_i hx
      have hx' : leS y x := (leS_total x y).resolve_left fun z => hx ((leS_iff x y).mpr z)
      refine List.pairwise_cons.mpr ⟨fun z hz => ?_, insS_le x l h2⟩
      rcases List.mem_cons.mp ((insS_perm x l).mem_iff.mp hz) with e | e
      · rw [e]; exact hx'
      · exact h1 z e
theorem ssort_le : ∀ l : List Str, (ssort l).Pairwise leS
  | [] => .nil
  | x :: l => insS_le x _ (ssort_le l)
theorem sorted_is {ys ks : List Str} (p : ys.Perm ks) (s : sortedS ys = true) : ys = ssort ks := perm_eqS (p.trans (ssort_perm ks).symm) (sorted_pair s) (ssort_le ks)
def skeys? : List (Key × D) → Option (List Str)
  | [] => some []
  | (.inr x, _) :: l => (skeys? l).map (x :: ·)
  | _ :: _ => none
theorem skeys_map : ∀ {l : List (Key × D)} {ks : List Str}, skeys? l = some ks → l.map (·.1) = ks.map Sum.inr
  | [], _, e => by cases e; rfl
  | (.inr x, _) :: l, ks, e => by
    simp only [skeys?, Option.map_eq_some_iff] at e
    obtain ⟨ks', e1, rfl⟩ := e
    simp [skeys_map e1]
  | (.inl _, _) :: _, _, e => by cases e
theorem ra_strs {K : PySem.W.Frag} {w : Wd} : ∀ ss : List Str, RA K w (ss.map V.str) (ss.map D.str)
  | [] => .nil
  | n :: ns => .cons (.str n) (ra_strs ns)
def gSortedX : List D → Store → Option D
  | [.dic l], _ => (skeys? l).bind fun ks => if ks.length < 64 then some (.lst ((ssort ks).map .str)) else none
  | ds, S => gSorted ds S
section
variable {X : Cx} {cl : Str → Addr} {W : WX}
theorem c_sortedX (hc : X.calm = true) : CallR X (.builtin "sorted") (rN X.K cl gSortedX) := by
  refine ofN (CallR.or (c_sorted (cl := cl)) (call_sortedD hc)) fun xs H Q w S ds z k r hg q => ?_
  unfold gSortedX at hg
  split at hg
  · rename_i l
    obtain ⟨v, rfl, rv⟩ := ra1 r
    obtain ⟨a, vs, rfl, ha, ra⟩ := rv.dic_inv
    cases hk : skeys? l with
    | none => rw [hk] at hg; cases hg
    | some ks =>
      rw [hk] at hg
      simp only [Option.bind_some] at hg
      split at hg
      · rename_i h64
        cases hg
        refine .inr ⟨a, vs, ks, rfl, Rd.mono k.sub ha, by rw [ra.keys]; exact skeys_map hk, h64, fun ys p pm so hp => ?_⟩
        rw [sorted_is pm so]
        obtain ⟨e1, o1, r1⟩ := k.layL hp (ra_strs (ssort ks))
        exact q _ _ _ e1 o1 r1
      · cases hg
  · exact .inl ⟨w, S, ds, z, k, r, hg, q⟩
def gStr : List D → Store → Option D
  | [.int i], _ => if i.natAbs.log2 < 1920 then some (.str (toString i)) else none
  | _, _ => none
theorem c_str : CallR X (.type "str") (rN X.K cl gStr) := by
  refine ofN call_str_int fun xs H Q w S ds z k r hg q => ?_
  unfold gStr at hg
  split at hg
  · split at hg
    · rename_i h
      cases hg
      obtain ⟨v, rfl, rv⟩ := ra1 r
      cases rv
      exact ⟨_, rfl, h, q _ _ _ (Ext.refl _ _) k (.str _)⟩
    · cases hg
  · cases hg
def repS (x : Str) (n : Nat) : Str := ⟨(List.replicate n x.cps).foldl (· ++ ·) #[]⟩
def gMulX : D → D → Store → Option D
  | .str x, .int n, _ => if 0 ≤ n ∧ n ≤ 1000 ∧ x.length ≤ 1000 then some (.str (if n < 1 then Str.empty else if (n == 1 || x.length == 0) = true then x else repS x n.toNat)) else none
  | d, e, S => gMul d e S
theorem op_mulStr : OpR X (binaryOp .Mult) (fun x y H Q => ∃ (z : Str) (n : Int), x = .str z ∧ y = .int n ∧ (0 ≤ n ∧ n ≤ 1000 ∧ z.length ≤ 1000) ∧ Q (.str (if n < 1 then Str.empty else if (n == 1 || z.length == 0) = true then z else repS z n.toNat)) H) := by
  intro pins s σ H x y u v Q I rx ry ⟨z, n, ex, ey, hl, q⟩
  subst ex ey
  obtain ⟨t, rfl⟩ := rx
  obtain ⟨t', rfl⟩ := ry
  have h63 : z.length * n.toNat ≤ 1000 * 1000 := Nat.mul_le_mul hl.2.2 (by omega)
  refine PySem.P.mul_str ?_ (fun h1 _ => ?_) (fun _ _ => ?_) ?_
  · have h1 : ¬ n < -(2 ^ 63 : Int) := by omega
    have h2 : ¬ n ≥ 2 ^ 63 := by omega
    rw [decide_eq_false h1, decide_eq_false h2]; rfl
  · have : (1000 : Int) ≤ (2 ^ 63 - 1) / n := by
      rw [Int.le_ediv_iff_mul_le (by omega)]
      omega
    omega
  · have := sizeLine_eq
    show decide (_ > sizeLine) = false
    exact decide_eq_false (by omega)
  · split
    · rename_i h1
      rw [if_pos h1] at q
      exact ⟨by rw [sizeLine_eq]; decide, .str _, H, I.tok _, ⟨_, rfl⟩, q⟩
    · rename_i h1
      rw [if_neg h1] at q
      split
      · rename_i h2
        rw [if_pos h2] at q
        exact ⟨.str _, H, I, ⟨_, rfl⟩, q⟩
      · rename_i h2
        rw [if_neg h2] at q
        refine ⟨?_, .str _, H, I.tok _, ⟨_, rfl⟩, q⟩
        have sz : ∀ (m : Nat) (b : Array Nat), ((List.replicate m z.cps).foldl (· ++ ·) b).size = b.size + m * z.cps.size := by
          intro m
          induction m with
          | zero => intro b; simp
          | succ m ih =>
            intro b
            rw [List.replicate_succ, List.foldl_cons, ih, Array.size_append, Nat.succ_mul]
            omega
        have := sz n.toNat #[]
        have hz : z.cps.size * n.toNat ≤ 1000 * 1000 := h63
        show ((List.replicate n.toNat z.cps).foldl (· ++ ·) #[]).size ≤ sizeLine
        rw [this, sizeLine_eq, Nat.mul_comm]
        simp
        omega
theorem o_mulX : OpR X (binaryOp .Mult) (r2 X.K cl gMulX) := by
  refine of2 (OpR.or (o_mul (cl := cl)) op_mulStr) fun x y H Q w S d e z k r1 r2 hg q => ?_
  unfold gMulX at hg
  split at hg
  · split at hg
    · rename_i h
      cases hg
      cases r1; cases r2
      exact .inr ⟨_, _, rfl, rfl, h, q w _ H (Ext.refl _ _) k (.str _)⟩
    · cases hg
  · exact .inl ⟨w, S, d, e, z, k, r1, r2, hg, q⟩
def pairs? : List D → Option (List (Key × D))
  | [] => some []
  | .tup [k, v] :: l => match keyD k with
    | some k => (pairs? l).map ((k, v) :: ·)
    | none => none
  | _ :: _ => none
def mergeD (kvs more : List (Key × D)) : List (Key × D) := more.foldl (fun acc kv => putD acc kv.1 kv.2) kvs
theorem RK.merge {K : PySem.W.Frag} {w : Wd} : ∀ {more : List (Key × V)} {moreD : List (Key × D)}, RK K w more moreD → ∀ {vs : List (Key × V)} {ds : List (Key × D)}, RK K w vs ds → RK K w (mergeK vs more) (mergeD ds moreD)
  | _, _, .nil, _, _, h => h
  | _, _, .cons r t, _, _, h => RK.merge t (RK.put r h)
theorem pairs_ra {K : PySem.W.Frag} {w : Wd} {F' : Hp} (e : Same w.F F') : ∀ {l : List D} {vs : List V} {kds : List (Key × D)}, RA K w vs l → pairs? l = some kds → ∃ (ps : List Addr) (kvs : List (Key × V)), vs = ps.map V.ref ∧ Paired (fun p kv => SqT K F' p [kV kv.1, kv.2]) ps kvs ∧ RK K w kvs kds
  | [], _, kds, .nil, h => by cases h; exact ⟨[], [], rfl, .nil, .nil⟩
  | d :: l, _, kds, .cons r t, h => by
    unfold pairs? at h
    split at h
    · rename_i heq; cases heq
    · rename_i k v l' heq
      cases heq
      split at h
      · rename_i key hk
        simp only [Option.map_eq_some_iff] at h
        obtain ⟨kds', h1, rfl⟩ := h
        obtain ⟨ps, kvs, rfl, pr, rk⟩ := pairs_ra e t h1
        obtain ⟨a, us, rfl, ha, ra⟩ := r.tup_inv
        cases ra with
        | cons r1 t1 =>
          cases t1 with
          | cons r2 t2 =>
            cases t2
            have ek := keyD_v r1 hk
            subst ek
            exact ⟨a :: ps, (key, _) :: kvs, rfl, .cons (SqT.mono e ha) pr, .cons r2 rk⟩
      · cases h
    · cases h
def gDictP : List D → Store → Option D
  | [.lst l], _ => (pairs? l).map fun kds => .dic (mergeD [] kds)
  | _, _ => none
theorem de_dictP {p pos : Pos} {a : Expr} {fa : BW.Env → Store → Res (List D)} (hc : X.calm = true) (ha : DA X cl W [a] fa) (hg : Gl X "dict") (hm : X.mg "dict" = none) (he : starEach [a] X.env = (false, eval a X.env) :: starEach [] X.env := by rfl) (hpl : (backTo pos (starEach [] X.env)).any (·.1) = false := by rfl) :
    DE X cl W (.Call (.Name "dict" p) [a] [] pos) (fN gDictP fa) := by
  refine PE.imp (PE.lkA (pe_callTy (call_dictP hc) hg hm (by decide +kernel) ha (he := he) (hpl := hpl))) fun σ H Q ⟨w, ρ, S, o, n, p⟩ => ?_
  refine tG.at o n (Post.bind p fun ds S1 w1 xs H1 e1 o1 r1 p1 => ?_)
  unfold gDictP at p1
  split at p1
  · rename_i l
    obtain ⟨v, rfl, rv⟩ := ra1 r1
    obtain ⟨a, vs, rfl, h1, h2⟩ := rv.lst_inv
    cases hp : pairs? l with
    | none => rw [hp] at p1; exact p1.elim
    | some kds =>
      rw [hp] at p1
      obtain ⟨ps, kvs, rfl, pr, rk⟩ := pairs_ra o1.sub h2 hp
      refine ⟨a, ps, kvs, rfl, o1.sqL h1, pr, fun q hq => ⟨q, _, upd_same, trivial, fun od => ?_⟩⟩
      rw [upd_upd]
      obtain ⟨e2, o2, r2⟩ := o1.layD (q := od) hq (RK.merge rk .nil)
      exact p1.okT e2 o2 r2
  · exact p1.elim
end
end BW
namespace BW
open PySem PySem.Spec PyProof.Rows L2
theorem h64 {k : Nat} {A : Around} (r : L2H.RoomH k A) : A.units + 64 < cLine := by have := r.un; omega
theorem h1 {k : Nat} {A : Around} (r : L2H.RoomH k A) : A.units + 1 < cLine := by have := r.un; omega
theorem u64 {k : Nat} {A : Around} (r : Room k A) : A.units + 64 < cLine := r.units
theorem hot_of {k : Nat} {A : Around} (r : Room k A) (h : Option Value) : L2H.RoomH k (A.mark h) := ⟨r.dp, r.un⟩
section
variable (ρ : BW.Env) (S : Store)
@[simp] theorem e_sRaise (c : Str) : sRaise c ρ S = .err c ρ S := rfl
@[simp] theorem e_sTry (gb : Stm) (i : Nat) (cs : List Str) (FE : Str → BW.Env → Store → Res D) : sTry gb i cs FE ρ S = match gb ρ S with
  | .err c ρ' S' => if i < ρ'.length ∧ c ∈ cs then Out.of (noErr (FE c (ρ'.set i none) S')) ρ' fun d S1 => .ret d S1 else .bad
  | o => o := rfl
@[simp] theorem e_fMt (g : List D → List D → Store → Option D) (fo : BW.Env → Store → Res D) (fa : BW.Env → Store → Res (List D)) : fMt g fo fa ρ S = (fo ρ S).bind fun d S1 => match d with
  | .lst l => (fa ρ S1).bind fun ds S2 => Res.of S2 (g l ds S2)
  | _ => .bad := rfl
@[simp] theorem e_fFld (c f : Str) (fo : BW.Env → Store → Res D) : fFld c f fo ρ S = (fo ρ S).bind fun d S1 => match insAt c d S1 with
  | some (_, fs) => Res.of S1 (fs.lookup f)
  | none => .bad := rfl
@[simp] theorem e_sFldSet (c f : Str) (fo fv : BW.Env → Store → Res D) : sFldSet c f fo fv ρ S = Out.of (fv ρ S) ρ fun y S1 => Out.of (fo ρ S1) ρ fun d S2 => match insAt c d S2 with
  | some (i, fs) => if fs.length < 1000 then .next ρ (S2.set i (.ins c (putFD f y fs))) else .bad
  | none => .bad := rfl
@[simp] theorem e_fMeth (c mn : Str) (n : Nat) (m : List D → Store → Res D) (fo : BW.Env → Store → Res D) (fa : BW.Env → Store → Res (List D)) : fMeth c mn n m fo fa ρ S = (fo ρ S).bind fun d S1 => match insAt c d S1 with
  | some (_, fs) => if fs.lookup mn = none then (fa ρ S1).bind fun ds S2 => if (d :: ds).length = n then m (d :: ds) S2 else .bad else .bad
  | none => .bad := rfl
@[simp] theorem e_fMake (c : Str) (n : Nat) (m : List D → Store → Res D) (fa : BW.Env → Store → Res (List D)) : fMake c n m fa ρ S = (fa ρ S).bind fun ds S1 => if ds.length + 1 = n then (m (.ref S1.length :: ds) (S1 ++ [.ins c []])).bind fun r S2 => (match r with
  | .non => .ok (.ref S1.length) S2
  | _ => .bad) else .bad := rfl
@[simp] theorem e_sSetOwnD (i : Nat) (f : BW.Env → Store → Res (List (Key × D))) : sSetOwnD i f ρ S = Out.of (f ρ S) ρ fun l S1 => .next (ρ.set i (some (.ownd l))) S1 := rfl
@[simp] theorem e_fDict (fa : BW.Env → Store → Res (List D)) : fDict fa ρ S = (fa ρ S).bind fun ds S1 => match ds with
  | [.dic l] => .ok l S1
  | _ => .bad := rfl
@[simp] theorem o_inT (neg : Bool) (d : D) (l : List D) : gInX neg d (.tup l) S = gIn neg d (.tup l) S := rfl
@[simp] theorem o_inL (neg : Bool) (d : D) (l : List D) : gInX neg d (.lst l) S = gIn neg d (.lst l) S := rfl
@[simp] theorem o_inS (neg : Bool) (d : D) (x : Str) : gInX neg d (.str x) S = gIn neg d (.str x) S := rfl
@[simp] theorem o_inK (neg : Bool) (x : Str) (l : List (Key × D)) : gInX neg (.str x) (.dic l) S = some (.bl (xor neg (valD l (.inr x)).isSome)) := rfl
@[simp] theorem o_mulI (i j : Int) : gMulX (.int i) (.int j) S = gMul (.int i) (.int j) S := rfl
@[simp] theorem o_mulL (l : List D) (j : Int) : gMulX (.lst l) (.int j) S = gMul (.lst l) (.int j) S := rfl
@[simp] theorem o_mulT (l : List D) (j : Int) : gMulX (.tup l) (.int j) S = gMul (.tup l) (.int j) S := rfl
@[simp] theorem o_sortL (l : List D) : gSortedX [.lst l] S = gSorted [.lst l] S := rfl
@[simp] theorem o_lenD (l : List (Key × D)) : gLen [.dic l] S = some (.int (l.length : Nat)) := rfl
@[simp] theorem o_ixD (l : List (Key × D)) (x : Str) : gIx (.dic l) (.str x) S = valD l (.inr x) := rfl
end
@[simp] theorem e_fAt0 {α : Type} (a : Addr) (r : Store → Res α) (l : BW.Env) (S : Store) : fAt 0 a r (some (.adr a) :: l) S = r S := by unfold fAt; simp
end BW
namespace BW
open PySem PySem.Spec PyProof.Rows L2
section
variable {K : PySem.W.Frag} {cl : Str → Addr} {w : Wd} {S : Store} {H : Hp}
theorem R.new (k : Ok K cl w S H) (x : Addr) : R K (w.new x) (.ref x) (.ref S.length) := by
  have kx : (w.new x).k S.length = x := by
    show (if S.length = w.n then x else _) = x
    rw [if_pos k.len.symm]
  have := R.ref (K := K) (w := w.new x) (i := S.length) (by show _ < w.n + 1; rw [k.len]; omega)
  rw [kx] at this
  exact this
end
def lstAt (d : D) (S : Store) : Option (Nat × List D) := match d with
  | .ref i => match S[i]? with
    | some (.lst l) => some (i, l)
    | _ => none
  | _ => none
end BW
namespace BW
open PySem PySem.Spec PyProof.Rows L2
section
variable {X : Cx} {cl : Str → Addr} {W : WX} {e : Pt}
theorem RK.at' {K : PySem.W.Frag} {w : Wd} : ∀ {vs : List (Key × V)} {ds : List (Key × D)} {i : Nat} {k : Key} {v : V}, RK K w vs ds → vs[i]? = some (k, v) → ∃ d, ds[i]? = some (k, d) ∧ R K w v d
  | _, _, _, _, _, .nil, h => by simp at h
  | _, _, 0, _, _, .cons r _, h => by
    simp at h
    obtain ⟨rfl, rfl⟩ := h
    exact ⟨_, rfl, r⟩
  | _, _, i + 1, _, _, .cons _ t, h => by
    obtain ⟨d, h1, h2⟩ := RK.at' (i := i) t (by simpa using h)
    exact ⟨d, by simpa using h1, h2⟩
end
end BW
namespace BW
open PySem PySem.Spec PyProof.Rows L2
section
variable {X : Cx} {cl : Str → Addr} {W : WX} {e : Pt}
def dropD (kvs : List (Key × D)) (k : Key) : List (Key × D) := kvs.filter fun kv => decide (kv.1 ≠ k)
theorem RK.drop {K : PySem.W.Frag} {w : Wd} {k : Key} : ∀ {vs : List (Key × V)} {ds : List (Key × D)}, RK K w vs ds → RK K w (dropK vs k) (dropD ds k)
  | _, _, .nil => .nil
  | _, _, .cons (k := j) r t => by
    have ih := RK.drop (k := k) t
    by_cases h : j = k
    · simpa [dropK, dropD, h] using ih
    · have : RK K w ((j, _) :: dropK _ k) ((j, _) :: dropD _ k) := .cons r ih
      simpa [dropK, dropD, h] using this
end
end BW
namespace BW
open PySem PySem.Spec PyProof.Rows L2
section
variable {P : Program} {w : World} {κ : Type} [DecidableEq κ] {knd : PySem.KeyKind P w κ} {A : Around} {E : Value → Shared → Prop} {s : Shared}
theorem cls_val (n : Nat) {v : Value} (h : carriedByValue v = true) : ofAClassStatement n v = pure false := by
  cases v with
  | ref a => cases h
  | _ => cases n <;> rfl
theorem hbv_val (n : Nat) {v : Value} (h : carriedByValue v = true) : ∃ b, hashByValue n v = pure b := by
  cases v with
  | ref a => cases h
  | _ => cases n <;> exact ⟨_, rfl⟩
/-- a tuple of things by value is of no class statement -/
theorem cls_tup {k : List κ} {b : Addr} {Q : Bool → Shared → Prop} (hk : IsTupleKey knd s.heap k b) (h : Q false s) : wpAny (model P w) A (ofAClassStatement 8 (.ref b)) Q E s := by
  have ty := hk.typeIs
  obtain ⟨o, its, n, h1, _, h2, h3⟩ := hk
  have bv := h3.byValue
  unfold ofAClassStatement
  refine wpAny_bind (wpAny_typeOf ty ?_)
  have e : (("tuple" : String) == "tuple") = true := by decide
  simp only [e, if_true, Bool.not_true, Bool.false_eq_true, if_false]
  refine wpAny_bind (wpAny_pure ?_)
  simp only [Bool.not_true, Bool.false_eq_true, if_false]
  refine wpAny_bind (wpAny_seqItems h1 h2 (wpAny_bind ?_))
  show wpAny _ _ (forIn its _ _) _ _ s
  rw [← Array.forIn_toList]
  refine wpAny_forIn_list _ (fun l r z => r.1 = none ∧ z = s ∧ ∀ v ∈ l, carriedByValue v = true) _ (fun v l r z q => ?_) (fun r z q => ?_) _ _ ⟨rfl, rfl, bv⟩
  · obtain ⟨_, rfl, q3⟩ := q
    rw [cls_val _ (q3 v List.mem_cons_self)]
    refine wpAny_bind (wpAny_pure ?_)
    simp only [Bool.false_eq_true, if_false]
    exact wpAny_pure ⟨rfl, rfl, fun u hu => q3 u (List.mem_cons_of_mem _ hu)⟩
  · obtain ⟨r1, r2⟩ := r
    obtain ⟨q1, rfl, _⟩ := q
    cases q1
    exact wpAny_pure h
/-- whether its hash is by value: some word, and nothing else -/
theorem hbv_tup {k : List κ} {b : Addr} {Q : Bool → Shared → Prop} (hk : IsTupleKey knd s.heap k b) (h : ∀ c, Q c s) : wpAny (model P w) A (hashByValue 8 (.ref b)) Q E s := by
  have ty := hk.typeIs
  obtain ⟨o, its, n, h1, _, h2, h3⟩ := hk
  have bv := h3.byValue
  unfold hashByValue
  refine wpAny_bind (wpAny_specialOf ty F.slot_tuple_hash.lookup ?_)
  show wpAny _ _ (seqItems? (.ref b) >>= _) _ _ s
  refine wpAny_bind (wpAny_seqItems h1 h2 (wpAny_bind ?_))
  show wpAny _ _ (forIn its _ _) _ _ s
  rw [← Array.forIn_toList]
  refine wpAny_forIn_list _ (fun l r z => r.1 = none ∧ z = s ∧ ∀ v ∈ l, carriedByValue v = true) _ (fun v l r z q => ?_) (fun r z q => ?_) _ _ ⟨rfl, rfl, bv⟩
  · obtain ⟨_, rfl, q3⟩ := q
    obtain ⟨c, ec⟩ := hbv_val 7 (q3 v List.mem_cons_self)
    rw [ec]
    refine wpAny_bind (wpAny_pure ?_)
    cases c with
    | true =>
      simp only [Bool.not_true, Bool.false_eq_true, if_false]
      exact wpAny_pure ⟨rfl, rfl, fun u hu => q3 u (List.mem_cons_of_mem _ hu)⟩
    | false =>
      simp only [Bool.not_false, if_true]
      exact wpAny_pure (wpAny_pure (h false))
  · obtain ⟨r1, r2⟩ := r
    obtain ⟨q1, rfl, _⟩ := q
    cases q1
    exact wpAny_pure (h true)
/-- who looks among such tuples shows nothing -/
theorem seen_no {k : List κ} {b : Addr} {Q : Bool → Shared → Prop} (hk : IsTupleKey knd s.heap k b) {ys : List Value} (hy : ∀ y ∈ ys, ∃ k' c, y = Value.ref c ∧ IsTupleKey knd s.heap k' c) (h : Q false s) :
    wpAny (model P w) A (searchCouldBeSeen (.ref b) ys) Q E s := by
  unfold searchCouldBeSeen
  refine wpAny_bind (wpAny_forIn_list _ (fun l r z => r.1 = none ∧ z = s ∧ ∀ y ∈ l, ∃ k' c, y = Value.ref c ∧ IsTupleKey knd s.heap k' c) _ (fun v l r z q => ?_) (fun r z q => ?_) _ _ ⟨rfl, rfl, hy⟩)
  · obtain ⟨_, rfl, q3⟩ := q
    obtain ⟨k', c, rfl, kc⟩ := q3 v List.mem_cons_self
    have more := fun u hu => q3 u (List.mem_cons_of_mem _ hu)
    dsimp only
    by_cases very : (b == c || (carriedByValue (.ref b) && carriedByValue (.ref c))) = true
    · exact wp_if_pos very (wpAny_pure ⟨rfl, rfl, more⟩)
    · refine wp_if_neg very (wpAny_bind (wpAny_eqIsQuiet_tuple hk ?_))
      simp only [Bool.not_true, Bool.false_eq_true, if_false]
      refine wpAny_bind (wpAny_eqIsQuiet_tuple kc ?_)
      simp only [Bool.not_true, Bool.false_eq_true, if_false]
      refine wpAny_bind (cls_tup hk ?_)
      simp only [Bool.false_eq_true, if_false]
      refine wpAny_bind (cls_tup kc ?_)
      simp only [Bool.false_eq_true, if_false]
      exact wpAny_pure ⟨rfl, rfl, more⟩
  · obtain ⟨r1, r2⟩ := r
    obtain ⟨q1, rfl, _⟩ := q
    cases q1
    exact wpAny_pure h
abbrev hk (knd : PySem.KeyKind P w κ) (k : List κ) : Int := tupleKeyHash knd k
abbrev ents (knd : PySem.KeyKind P w κ) (L : List (Addr × List κ)) : List (Int × Value) := L.map fun p => (hk knd p.2, Value.ref p.1)
/-- at a stands a set of these tuples -/
structure KS (knd : PySem.KeyKind P w κ) (h : Heap) (a : Addr) (L : List (Addr × List κ)) (es : Array (Int × Value)) (ep : Nat) (t : SetTable) : Prop where
  obj : ∃ o, h.get? a = some o ∧ o.ExactSet ∧ o.data = .set es ep t
  ent : es.toList = ents knd L
  tab : TabOk t (L.map fun p => hk knd p.2)
  dif : (L.map (·.2)).Nodup
  are : ∀ p ∈ L, IsTupleKey knd h p.2 p.1
  room : L.length * 5 < t.mask * 3
variable {a : Addr} {L : List (Addr × List κ)} {es : Array (Int × Value)} {ep : Nat} {t : SetTable}
theorem ents_size (h : es.toList = ents knd L) : es.size = L.length := by
  rw [← Array.length_toList, h, List.length_map]
theorem ents_at (h : es.toList = ents knd L) {i : Nat} {p : Addr × List κ} (e : L[i]? = some p) : es[i]? = some (hk knd p.2, Value.ref p.1) := by
  rw [← Array.getElem?_toList, h, List.getElem?_map, e]; rfl
theorem fits_of (h1 : t.place.size = es.size) (h2 : t.dummies = #[]) (h3 : es.size ≤ t.mask) : t.fits es.size = true := by
  unfold SetTable.fits SetTable.fill
  rw [h1, h2]
  simpa using h3
theorem KS.fit (R : KS knd s.heap a L es ep t) : t.fits es.size = true := by
  have h1 := R.tab.sz
  have h2 := ents_size R.ent
  have h3 := R.room
  rw [List.length_map] at h1
  exact fits_of (by omega) R.tab.dm (by omega)
theorem KS.odd (R : KS knd s.heap a L es ep t) : ¬ t.gaveWay = true := by
  unfold SetTable.gaveWay
  rw [mask_odd R.tab.mok]
  decide
abbrev from0 (m : Nat) (h : Int) : SetTable.Probe := runAt m (SetTable.bits h % (m + 1)) (SetTable.bits h)
theorem no_dummy (m : Nat) : ∀ (n : Nat) (p : SetTable.Probe), p.dummy = none → (nth m p n).dummy = none
  | 0, _, h => h
  | n + 1, p, h => no_dummy m n (adv m p) (by unfold adv; split <;> exact h)
/-- the look for a tuple, from the c-th step of its way on; K is the first step at an empty slot -/
theorem KS.look (R : KS knd s.heap a L es ep t) {x : Addr} {k : List κ} (hx : IsTupleKey knd s.heap k x) (hu : A.units < cLine) {K : Nat} (k1 : K < 10 * SetTable.turns t.mask)
    (k2 : way t.mask (hk knd k) K ∉ t.place.toList) (k3 : ∀ c, c < K → way t.mask (hk knd k) c ∈ t.place.toList) {Q : SetFound → Shared → Prop}
    (yes : k ∈ L.map (·.2) → Q (.there none) s) (no : k ∉ L.map (·.2) → Q (.free (way t.mask (hk knd k) K) false) s) (f : Nat) :
    ∀ (c : Nat) (st : Option SetTable.Probe), K - c < f → c ≤ K → st.getD (t.probeStart (hk knd k)) = nth t.mask (from0 t.mask (hk knd k)) c →
      (∀ (i : Nat) (p : Addr × List κ), L[i]? = some p → p.2 = k → ∃ d, c ≤ d ∧ d < K ∧ t.place.toList[i]? = some (way t.mask (hk knd k) d)) →
      wpAny (model P w) A (setSearchFrom a (.ref x) (hk knd k) true f st) Q E s := by
  induction f with
  | zero => exact fun c st hf => absurd hf (Nat.not_lt_zero _)
  | succ f ih =>
    intro c st hf hc hst ahead
    obtain ⟨o, o1, o2, o3⟩ := R.obj
    have shift : ∀ q, nth t.mask (nth t.mask (from0 t.mask (hk knd k)) c) q = nth t.mask (from0 t.mask (hk knd k)) (c + q) := fun q => (nth_add _ _ _ _).symm
    have shiftj : ∀ q, (nth t.mask (nth t.mask (from0 t.mask (hk knd k)) c) q).j = way t.mask (hk knd k) (c + q) := fun q => by rw [shift]
    have hash_at : ∀ (i : Nat) (p : Addr × List κ), L[i]? = some p → (es[i]?.map (·.1)).getD 0 = hk knd p.2 := fun i p e => by rw [ents_at R.ent e]; rfl
    -- none of equal hash was met on the way up to n
    have passed : ∀ n : Nat, (∀ (q i : Nat), q < n → t.place.toList[i]? = some (nth t.mask (nth t.mask (from0 t.mask (hk knd k)) c) q).j → (es[i]?.map (·.1)).getD 0 ≠ hk knd k) → ∀ (i : Nat) (p : Addr × List κ), L[i]? = some p → p.2 = k → ∀ d, c ≤ d → d < c + n → t.place.toList[i]? ≠ some (way t.mask (hk knd k) d) := by
      intro n hn i p e1 e2 d d1 d2 e3
      refine hn (d - c) i (by omega) ?_ (by rw [hash_at i p e1, e2])
      rw [shiftj, e3]
      congr 2
      omega
    rw [setSearchFrom_succ]
    refine wpAny_bind (wpAny_setState_of o1 o3 R.fit ?_)
    dsimp only
    refine wp_if_neg R.odd (wpAny_bind (wpAny_pure ?_))
    have go := go_spec t R.tab.ris R.tab.dm (fun i => (es[i]?.map (·.1)).getD 0) (hk knd k) (10 * SetTable.turns t.mask) (K - c) (nth t.mask (from0 t.mask (hk knd k)) c) (no_dummy _ c _ rfl) (by omega)
      (fun q hq => by rw [shiftj]; exact k3 _ (by omega)) (by rw [shiftj, show c + (K - c) = K by omega]; exact k2)
    rw [hst]
    rcases go with ⟨q, i, q1, q2, q3, q4, q5⟩ | ⟨q4, q5⟩
    · rw [show t.probe (fun i => (es[i]?.map (·.1)).getD 0) (hk knd k) (nth t.mask (from0 t.mask (hk knd k)) c) = _ from q5]
      dsimp only
      rw [shiftj] at q2
      have il : i < L.length := by
        have z := (List.getElem?_eq_some_iff.mp q2).1
        have y := R.tab.sz
        rw [Array.length_toList] at z
        rw [List.length_map] at y
        omega
      obtain ⟨p, hp⟩ : ∃ p, L[i]? = some p := ⟨_, List.getElem?_eq_getElem il⟩
      have pL := List.mem_of_getElem? hp
      have go_on : wpAny (model P w) A (searchRest a (.ref x) (hk knd k) true f es t (nth t.mask (nth t.mask (from0 t.mask (hk knd k)) c) q).j i (nth t.mask (nth t.mask (from0 t.mask (hk knd k)) c) (q + 1))) Q E s := by
        unfold searchRest
        rw [ents_at R.ent hp, shiftj]
        dsimp only
        refine wpAny_bind (wpAny_holding (wpAny_eqBool_tuple hu (R.are p pL) hx (wpAny_bind (wpAny_setState_of o1 o3 R.fit ?_))))
        dsimp only
        by_cases same : p.2 = k
        · refine wp_if_pos (by rw [decide_eq_true same]; rfl) (wpAny_pure (yes ?_))
          rw [← same]
          exact List.mem_map_of_mem pL
        · have sl := slot_live R.tab.ris q2
          refine wp_if_neg (by rw [decide_eq_false same]; decide) (wpAny_bind (wpAny_pure ?_))
          rw [sameMem]
          dsimp only
          rw [if_pos rfl, sl]
          dsimp only
          rw [ents_at R.ent hp]
          dsimp only
          refine wpAny_bind (wpAny_isSame_ref_self (wpAny_bind (wpAny_pure ?_)))
          rw [if_pos rfl]
          dsimp only
          refine wp_if_neg (by rw [decide_eq_false same]; decide) ?_
          rw [shift]
          refine ih (c + (q + 1)) _ (by omega) (by omega) rfl fun j p' e1 e2 => ?_
          obtain ⟨d, d1, d2, d3⟩ := ahead j p' e1 e2
          refine ⟨d, ?_, d2, d3⟩
          rcases Nat.lt_or_ge d (c + (q + 1)) with z | z
          · exfalso
            rcases Nat.lt_or_ge d (c + q) with y | y
            · exact passed q q4 j p' e1 e2 d d1 y d3
            · have ed : d = c + q := by omega
              rw [ed] at d3
              have sl2 := slot_live R.tab.ris d3
              rw [sl] at sl2
              injection sl2 with sl2
              rw [← sl2, hp] at e1
              exact same (by rw [Option.some.inj e1]; exact e2)
          · exact z
      by_cases hl : t.led = true
      · exact wp_if_neg (by rw [hl]; decide) (wpAny_bind (wpAny_pure go_on))
      · refine wp_if_pos (by simpa using hl) (wpAny_bind (seen_no hx (fun y hy => ?_) (wp_if_neg (by decide) (wpAny_bind (wpAny_pure go_on)))))
        obtain ⟨e, he, rfl⟩ := List.mem_map.mp hy
        have he' : e ∈ es.toList := by
          have := (Array.mem_filter.mp (Array.mem_toList_iff.mp he)).1
          exact Array.mem_toList_iff.mpr this
        rw [R.ent] at he'
        obtain ⟨p2, hp2, rfl⟩ := List.mem_map.mp he'
        exact ⟨p2.2, p2.1, rfl, R.are p2 hp2⟩
    · rw [show t.probe (fun i => (es[i]?.map (·.1)).getD 0) (hk knd k) (nth t.mask (from0 t.mask (hk knd k)) c) = _ from q5]
      dsimp only
      rw [shiftj, show c + (K - c) = K by omega]
      refine wpAny_pure (no fun hm => ?_)
      obtain ⟨p, pL, e2⟩ := List.mem_map.mp hm
      obtain ⟨i, il, e1⟩ := List.getElem_of_mem pL
      have e1' : L[i]? = some p := by rw [List.getElem?_eq_getElem il, e1]
      obtain ⟨d, d1, d2, d3⟩ := ahead i p e1' e2
      exact passed (K - c) q4 i p e1' e2 d d1 (by omega) d3
theorem KS.seek (R : KS knd s.heap a L es ep t) {x : Addr} {k : List κ} (hx : IsTupleKey knd s.heap k x) (hu : A.units < cLine) {Q : SetFound → Shared → Prop}
    (yes : k ∈ L.map (·.2) → Q (.there none) s)
    (no : ∀ K, k ∉ L.map (·.2) → way t.mask (hk knd k) K ∉ t.place.toList → (∀ c, c < K → way t.mask (hk knd k) c ∈ t.place.toList) → Q (.free (way t.mask (hk knd k) K) false) s) :
    wpAny (model P w) A (setSearch a (.ref x) (hk knd k) true) Q E s := by
  have rm := R.room
  obtain ⟨K, k1, k2, k3⟩ := R.tab.first (by rw [List.length_map]; omega) (hk knd k)
  have few : 10 * SetTable.turns t.mask ≤ 1420 := by
    unfold SetTable.turns
    rcases R.tab.mok with e | e | e <;> omega
  refine R.look hx hu k1 k2 k3 yes (fun z => no K z k2 k3) 100000 0 none (by omega) (Nat.zero_le _) rfl fun i p e1 e2 => ?_
  have il : i < t.place.toList.length := by
    have z := (List.getElem?_eq_some_iff.mp e1).1
    have y := R.tab.sz
    rw [List.length_map] at y
    rw [Array.length_toList]
    omega
  obtain ⟨d, d1, d2⟩ := R.tab.before (i := i) (j := t.place.toList[i]) k2 (by rw [List.getElem?_map, e1, ← e2]; rfl) (List.getElem?_eq_getElem il)
  exact ⟨d, Nat.zero_le _, d1, by rw [List.getElem?_eq_getElem il, d2]⟩
theorem tk_but {h h' : Heap} {k : List κ} {b : Addr} {o : Obj} (x : IsTupleKey knd h k b) (ho : h.get? a = some o) (hd : o.data = .set es ep t) (sb : Heap.SameBut a h h') : IsTupleKey knd h' k b := by
  obtain ⟨u, its, n, u1, u2, u3, u4⟩ := x
  refine ⟨u, its, n, (sb.2 b fun e => ?_).trans u1, u2, u3, u4⟩
  rw [e, ho] at u1
  cases u1
  rw [hd] at u3
  cases u3
theorem all_at {α : Type} : ∀ l : List α, (List.range l.length).filterMap (fun i => l[i]?) = l
  | [] => rfl
  | x :: l => by
    have ih := all_at l
    rw [List.length_cons, List.range_succ_eq_map, List.filterMap_cons, List.filterMap_map]
    simpa [Function.comp_def] using ih
theorem re_ents {order : Array Nat} (h : es.toList = ents knd L) (hp : order.toList.Perm (List.range L.length)) : ∃ M, (order.filterMap (es[·]?)).toList = ents knd M ∧ M.Perm L ∧ (M.map fun p => hk knd p.2) = order.toList.map fun i => (es.map (·.1)).getD i 0 := by
  have look : ∀ i : Nat, es[i]? = (L[i]?).map fun p => (hk knd p.2, Value.ref p.1) := fun i => by rw [← Array.getElem?_toList, h, List.getElem?_map]
  refine ⟨order.toList.filterMap fun i => L[i]?, ?_, ?_, ?_⟩
  · rw [Array.toList_filterMap, ents, List.map_filterMap]
    congr 1
    exact funext look
  · have := hp.filterMap fun i => L[i]?
    rw [all_at] at this
    exact this
  · have key : ∀ l : List Nat, (∀ i ∈ l, i < L.length) → ((l.filterMap fun i => L[i]?).map fun p => hk knd p.2) = l.map fun i => (es.map (·.1)).getD i 0 := by
      intro l
      induction l with
      | nil => exact fun _ => rfl
      | cons i l ih =>
        intro hl
        have e := List.getElem?_eq_getElem (hl i List.mem_cons_self)
        rw [List.filterMap_cons_some e, List.map_cons, List.map_cons, ih fun j hj => hl j (List.mem_cons_of_mem _ hj)]
        congr 1
        rw [Array.getD_eq_getD_getElem?, Array.getElem?_map, look, e]
        rfl
    exact key _ fun i hi => List.mem_range.mp (hp.mem_iff.mp hi)
/-- the table laid anew -/
theorem ks_relay {o : Obj} (ho : s.heap.get? a = some o) (hx : o.ExactSet) (hd : o.data = .set es ep t) (h1 : es.toList = ents knd L) (h2 : t.place.size = es.size) (h3 : t.dummies = #[]) (h4 : es.size ≤ t.mask)
    (h5 : (L.map (·.2)).Nodup) (h6 : ∀ p ∈ L, IsTupleKey knd s.heap p.2 p.1) {n M : Nat} (n1 : SetTable.sizeAbove n - 1 = M) (n2 : MaskOk M) (n3 : SetTable.sizeAbove n ≤ 128) (n4 : L.length * 5 < M * 3) {Q : Unit → Shared → Prop}
    (q : ∀ h' L' es' ep' t', Heap.SameBut a s.heap h' → KS knd h' a L' es' ep' t' → L'.Perm L → Q () { s with heap := h' }) : wpAny (model P w) A (setRelay a n) Q E s := by
  have sz := ents_size h1
  obtain ⟨t', ord, r1, r2, r3, r4, _, _, _⟩ := relaid_ok t (hs := es.map (·.1)) (wanted := n) n1 n2 (by rw [Array.size_map, sz]; omega)
  rw [Array.size_map, sz] at r2
  obtain ⟨N, m1, m2, m3⟩ := re_ents h1 r2
  have sz2 : (ord.filterMap (es[·]?)).size = es.size := by rw [ents_size m1, m2.length_eq, sz]
  rw [setRelay_eq]
  refine wpAny_bind (wpAny_setState_of ho hd (fits_of h2 h3 h4) ?_)
  dsimp only
  refine wp_if_neg (by rw [sizeLine_eq]; omega) ?_
  rw [r1]
  dsimp only
  refine wpAny_bind (wp_if_neg (by rw [sz2]; simp) (wpAny_pure ?_))
  dsimp only
  refine wpAny_storeSet_of ho hd ?_ (by rw [sz2, sz, sizeLine_eq]; omega)
  have sb : Heap.SameBut a s.heap (s.heap.update a (Obj.putSet (ord.filterMap (es[·]?)) t')) := Heap.SameBut.update ..
  refine q _ N _ _ _ sb ⟨⟨_, store_at ho hd, ⟨hx.1, hx.2.1, hx.2.2⟩, rfl⟩, m1, by rw [m3]; exact r3, (m2.map (·.2)).nodup_iff.mpr h5, fun p hp => tk_but (h6 p (m2.mem_iff.mp hp)) ho hd sb, ?_⟩ m2
  rw [m2.length_eq, r4]
  exact n4
theorem mid_perm {α : Type} (l : List α) (n : Nat) (x : α) : (l.take n ++ x :: l.drop n).Perm (x :: l) := by
  have := List.perm_middle (a := x) (l₁ := l.take n) (l₂ := l.drop n)
  rwa [List.take_append_drop] at this
theorem KS.add (R : KS knd s.heap a L es ep t) {x : Addr} {k : List κ} (hx : IsTupleKey knd s.heap k x) (hu : A.units < cLine) (few : L.length + 1 < 64) {Q : Bool → Shared → Prop}
    (q : ∀ b h' L' es' ep' t', Heap.SameBut a s.heap h' → KS knd h' a L' es' ep' t' → (k ∈ L.map (·.2) → L' = L) → (k ∉ L.map (·.2) → L'.Perm ((x, k) :: L)) → Q b { s with heap := h' }) :
    wpAny (model P w) A (setAddHashed a (.ref x) (hk knd k)) Q E s := by
  obtain ⟨o, o1, o2, o3⟩ := R.obj
  have sz := ents_size R.ent
  have rm := R.room
  unfold setAddHashed
  refine wpAny_holding ?_
  rw [show (100000 : Nat) = 99999 + 1 from rfl, setAddHashedIn_succ]
  refine wpAny_bind (wpAny_setState_of o1 o3 R.fit (wp_if_neg (by simp [byScan, Value.scannable]) (wpAny_bind (R.seek hx hu (fun hm => ?_) fun K hm k2 k3 => ?_))))
  · exact wpAny_pure (q false s.heap L es ep t (Heap.SameBut.refl a s.heap) R (fun _ => rfl) fun z => absurd hm z)
  · refine wpAny_bind (wpAny_setState_of o1 o3 R.fit ?_)
    dsimp only
    obtain ⟨p1, p2, p3, p4, p5, p6, _, _, p9⟩ := R.tab.put k2 k3
    generalize hpt : t.put (way t.mask (hk knd k) K) = pt at p1 p3 p4 p5 p6 p9 ⊢
    obtain ⟨t1, at1⟩ := pt
    dsimp only at p1 p3 p4 p5 p6 p9 ⊢
    subst p1
    have fin : ∀ t2 : SetTable, t2.place = t1.place → t2.dummies = t1.dummies → t2.mask = t1.mask → wpAny (model P w) A (do
        storeSet a (SetTable.insertAt es (SetTable.below t.place (way t.mask (hk knd k) K)) (hk knd k, Value.ref x)) t2
        if (!false && t2.tooFull) = true then setRelay a (SetTable.grown (es.size + 1))
        return true) Q E s := by
      intro t2 s1 s2 s3
      have in1 : (SetTable.insertAt es (SetTable.below t.place (way t.mask (hk knd k) K)) (hk knd k, Value.ref x)).toList = ents knd (L.take (SetTable.below t.place (way t.mask (hk knd k) K)) ++ (x, k) :: L.drop (SetTable.below t.place (way t.mask (hk knd k) K))) := by
        rw [SetTable.toList_insertAt, R.ent]
        simp only [ents, List.map_append, List.map_cons, List.map_take, List.map_drop]
      have hs1 : (L.take (SetTable.below t.place (way t.mask (hk knd k) K)) ++ (x, k) :: L.drop (SetTable.below t.place (way t.mask (hk knd k) K))).map (fun p => hk knd p.2) = (L.map fun p => hk knd p.2).take (SetTable.below t.place (way t.mask (hk knd k) K)) ++ hk knd k :: (L.map fun p => hk knd p.2).drop (SetTable.below t.place (way t.mask (hk knd k) K)) := by
        simp only [List.map_append, List.map_cons, List.map_take, List.map_drop]
      rw [← hs1] at p3
      have pm := mid_perm L (SetTable.below t.place (way t.mask (hk knd k) K)) (x, k)
      generalize SetTable.insertAt es (SetTable.below t.place (way t.mask (hk knd k) K)) (hk knd k, Value.ref x) = es1 at in1 ⊢
      generalize L.take (SetTable.below t.place (way t.mask (hk knd k) K)) ++ (x, k) :: L.drop (SetTable.below t.place (way t.mask (hk knd k) K)) = L1 at in1 p3 pm
      have len1 : L1.length = L.length + 1 := pm.length_eq
      have sz1 : es1.size = L.length + 1 := by rw [ents_size in1, len1]
      have dif1 : (L1.map (·.2)).Nodup := (pm.map (·.2)).nodup_iff.mpr (List.nodup_cons.mpr ⟨hm, R.dif⟩)
      have tab2 : TabOk t2 (L1.map fun p => hk knd p.2) := ⟨by rw [s1]; exact p3.ris, by rw [s2]; exact p3.dm, by rw [s1]; exact p3.sz, by rw [s3]; exact p3.mok, by rw [s1, s3]; exact p3.bd, by rw [s1, s3]; exact p3.reach⟩
      refine wpAny_bind (wpAny_storeSet_of o1 o3 ?_ (by rw [sz1, sizeLine_eq]; omega))
      have sb : Heap.SameBut a s.heap (s.heap.update a (Obj.putSet es1 t2)) := Heap.SameBut.update ..
      have ob1 := store_at (es' := es1) (t' := t2) o1 o3
      generalize s.heap.update a (Obj.putSet es1 t2) = h1 at sb ob1 ⊢
      have are1 : ∀ p ∈ L1, IsTupleKey knd h1 p.2 p.1 := fun p hp => by
        rcases List.mem_cons.mp (pm.mem_iff.mp hp) with e | z
        · rw [e]; exact tk_but hx o1 o3 sb
        · exact tk_but (R.are p z) o1 o3 sb
      have fill2 : t2.fill = L.length + 1 := by
        have e : t2.fill = t1.fill := by unfold SetTable.fill; rw [s1, s2]
        rw [e, p9, List.length_map]
      have m2 : t2.mask = t.mask := s3.trans p4
      by_cases full : t2.tooFull = true
      · have full' : (L.length + 1) * 5 ≥ t.mask * 3 := by
          have z := full
          unfold SetTable.tooFull at z
          rw [decide_eq_true_eq, fill2, m2] at z
          exact z
        have two : (t.mask = 7 ∧ L.length = 4) ∨ (t.mask = 31 ∧ L.length = 18) := by
          rcases R.tab.mok with e | e | e <;> rw [e] at full' rm <;> omega
        have relay : ∀ M, SetTable.sizeAbove (SetTable.grown (L.length + 1)) - 1 = M → MaskOk M → SetTable.sizeAbove (SetTable.grown (L.length + 1)) ≤ 128 → (L.length + 1) * 5 < M * 3 →
            wpAny (model P w) A (setRelay a (SetTable.grown (L.length + 1))) (fun _ z => wpAny (model P w) A (pure true) Q E z) E { s with heap := h1 } := fun M g1 g2 g3 g4 => by
          have ps := tab2.sz
          rw [List.length_map, len1] at ps
          refine ks_relay (s := { s with heap := h1 }) ob1 ⟨o2.1, o2.2.1, o2.2.2⟩ rfl in1 (by rw [ps, sz1]) tab2.dm (by rw [sz1, m2]; omega) dif1 are1 g1 g2 g3 (by rw [len1]; exact g4) ?_
          exact fun h2 L2 es2 ep2 t2 sb2 R2 pm2 => wpAny_pure (q true h2 L2 es2 ep2 t2 (sb.trans sb2) R2 (fun z => absurd z hm) fun _ => pm2.trans pm)
        refine wp_if_pos (by rw [full]; rfl) (wpAny_bind ?_)
        rw [sz]
        rcases two with ⟨_, e⟩ | ⟨_, e⟩
        · exact relay 31 (by rw [e, size_20]) (.inr (.inl rfl)) (by rw [e, size_20]; decide) (by omega)
        · exact relay 127 (by rw [e, size_76]) (.inr (.inr rfl)) (by rw [e, size_76]; decide) (by omega)
      · refine wp_if_neg (by simpa using full) (wpAny_bind (wpAny_pure (wpAny_pure (q true h1 L1 es1 (ep + 1) t2 sb ⟨⟨_, ob1, ⟨o2.1, o2.2.1, o2.2.2⟩, rfl⟩, in1, tab2, dif1, are1, ?_⟩ (fun z => absurd z hm) fun _ => pm))))
        have z := full
        unfold SetTable.tooFull at z
        rw [decide_eq_true_eq, fill2, m2] at z
        rw [len1, m2]
        omega
    by_cases pl : t1.plain = true
    · refine wp_if_pos pl (wpAny_bind (hbv_tup hx fun c => ?_))
      cases c with
      | true => exact fin t1 rfl rfl rfl
      | false => exact fin { t1 with plain := false } rfl rfl rfl
    · exact wp_if_neg pl (wpAny_bind (wpAny_pure (fin t1 rfl rfl rfl)))
end
end BW
namespace BW
open PySem PySem.Spec PyProof.Rows L2
section
variable {P : Program} {w : World} {κ : Type} [DecidableEq κ] {knd : PySem.KeyKind P w κ} {A : Around} {E : Value → Shared → Prop} {s : Shared}
theorem tk_up {h h' : Heap} {k : List κ} {b : Addr} (x : IsTupleKey knd h k b) (hh : ∀ c o, h.get? c = some o → h'.get? c = some o) : IsTupleKey knd h' k b :=
  let ⟨o, its, n, h1, h2⟩ := x; ⟨o, its, n, hh b o h1, h2⟩
/-- what a set has of the first i of a row of tuples -/
structure Has (ks : List (Addr × List κ)) (i : Nat) (L : List (Addr × List κ)) : Prop where
  low : ∀ p ∈ L, p ∈ ks.take i
  all : ∀ p ∈ ks.take i, p.2 ∈ L.map (·.2)
  few : L.length ≤ i
theorem Has.next {ks L M : List (Addr × List κ)} {i : Nat} {p : Addr × List κ} (g : Has ks i L) (e : ks[i]? = some p) (h1 : p.2 ∈ L.map (·.2) → M = L) (h2 : p.2 ∉ L.map (·.2) → M.Perm (p :: L)) : Has ks (i + 1) M := by
  have tk : ks.take (i + 1) = ks.take i ++ [p] := by rw [List.take_add_one, e]; rfl
  by_cases c : p.2 ∈ L.map (·.2)
  · rw [h1 c]
    refine ⟨fun q hq => by rw [tk]; exact List.mem_append_left _ (g.low q hq), fun q hq => ?_, Nat.le_succ_of_le g.few⟩
    rw [tk, List.mem_append, List.mem_singleton] at hq
    rcases hq with z | rfl
    · exact g.all q z
    · exact c
  · have pm := h2 c
    refine ⟨fun q hq => ?_, fun q hq => ?_, by rw [pm.length_eq]; exact Nat.succ_le_succ g.few⟩
    · rw [tk, List.mem_append, List.mem_singleton]
      rcases List.mem_cons.mp (pm.mem_iff.mp hq) with z | z
      · exact .inr z
      · exact .inl (g.low q z)
    · rw [(pm.map (·.2)).mem_iff, List.map_cons, List.mem_cons]
      rw [tk, List.mem_append, List.mem_singleton] at hq
      rcases hq with z | rfl
      · exact .inr (g.all q z)
      · exact .inl rfl
theorem ks_loop {I : Addr} {fp wr : List Addr} {G : Array GenState → Array GenState → Prop} {n : Nat} {Pv : Nat → Value → Prop} {St : Nat → Shared → Prop} {R : Result → Shared → Prop}
    (W : WalksS P w A.in1 I fp wr G n Pv St) (S : Addr) (nS : S ∉ fp) (ks : List (Addr × List κ)) (hn : n = ks.length) (few : ks.length < 64) (hv : ∀ i v, Pv i v → ∃ p, ks[i]? = some p ∧ v = .ref p.1)
    (h0 : Heap) (are : ∀ p ∈ ks, IsTupleKey knd h0 p.2 p.1) (new1 : h0.get? S = none) (new2 : ∀ b ∈ wr, h0.get? b = none) (hu : A.in1.units < cLine) (m : Nat) :
    ∀ (i : Nat) (s : Shared), n - i = m → i ≤ n → St i s → (∀ b o, h0.get? b = some o → s.heap.get? b = some o) → (∃ L es ep t, KS knd s.heap S L es ep t ∧ Has ks i L) →
      (∀ s' L es ep t, Moved (S :: wr) G s s' → KS knd s'.heap S L es ep t → Has ks n L → (∀ b o, h0.get? b = some o → s'.heap.get? b = some o) → R (.ok (.ret .none)) s') →
      codeAny (model P w) A (.builtin "set.update.loop" ⟨[.ref S, .ref I], []⟩) R s := by
  have up : ∀ b ∈ wr, b ∈ S :: wr := fun b hb => List.mem_cons_of_mem _ hb
  -- one item further: what stood stands
  have on : ∀ {s s' : Shared} {i : Nat} {L : List (Addr × List κ)} {es : Array (Int × Value)} {ep : Nat} {t : SetTable}, Moved wr G s s' → (∀ b o, h0.get? b = some o → s.heap.get? b = some o) → KS knd s.heap S L es ep t → Has ks i L →
      (∀ b o, h0.get? b = some o → s'.heap.get? b = some o) ∧ KS knd s'.heap S L es ep t := fun {s s' i L es ep t} mv kp K g => by
    have kp' : ∀ b o, h0.get? b = some o → s'.heap.get? b = some o := fun b o e => mv.heap b o (fun z => by rw [new2 b z] at e; cases e) (kp b o e)
    obtain ⟨o, o1, o2⟩ := K.obj
    exact ⟨kp', ⟨o, mv.heap S o (fun z => nS (W.sub _ z)) o1, o2⟩, K.ent, K.tab, K.dif, fun p hp => tk_up (are p (List.mem_of_mem_take (g.low p hp))) kp', K.room⟩
  induction m with
  | zero =>
    intro i s e1 e2 st kp ⟨L, es, ep, t, K, g⟩ hR
    obtain rfl : i = n := by omega
    refine codeAny_builtin F.entry_set_update_loop ?_
    rw [Around.under_plainId F.plain_set_update_loop _]
    show wpAny _ A.in1 (pyNext (.ref I) >>= _) _ _ s
    refine wpAny_bind (W.done s _ _ st fun s' mv => ?_)
    obtain ⟨kp', K'⟩ := on mv kp K g
    exact wpAny_pure (hR s' L es ep t (mv.mono up) K' g kp')
  | succ m ih =>
    intro i s e1 e2 st kp ⟨L, es, ep, t, K, g⟩ hR
    refine codeAny_builtin F.entry_set_update_loop ?_
    rw [Around.under_plainId F.plain_set_update_loop _]
    show wpAny _ A.in1 (pyNext (.ref I) >>= _) _ _ s
    refine wpAny_bind (W.item i s _ _ (by omega) st fun v s' pv st' mv => ?_)
    obtain ⟨p, hp, rfl⟩ := hv i v pv
    obtain ⟨kp', K'⟩ := on mv kp K g
    have hx : IsTupleKey knd s'.heap p.2 p.1 := tk_up (are p (List.mem_of_getElem? hp)) kp'
    show wpAny _ A.in1 (holding [Value.ref p.1] (setAdd S (.ref p.1)) >>= _) _ _ s'
    unfold setAdd
    refine wpAny_bind (wpAny_holding (wpAny_holding (wpAny_bind (wpAny_pyHash_tuple hu hx ?_))))
    refine KS.add (s := { s' with toks := s'.toks + (p.2.length + 1) }) K' hx hu (by have := g.few; omega) fun b h' L' es' ep' t' sb K2 c1 c2 => ?_
    have kp2 : ∀ b o, h0.get? b = some o → h'.get? b = some o := fun b o e => (sb.2 b fun z => by rw [z, new1] at e; cases e).trans (kp' b o e)
    refine wpAny_pure ⟨plainId_quiet F.plain_set_update_loop _, ih (i + 1) _ (by omega) (by omega) (W.frame _ s' _ _ st' (Nat.le_add_right _ _) fun b hb o e => ?_) kp2 ⟨L', es', ep', t', K2, g.next hp c1 c2⟩ fun s2 L2 es2 ep2 t2 mv2 K3 g3 kp3 => ?_⟩
    · exact (sb.2 b fun z => nS (z ▸ hb)).trans e
    · refine hR s2 L2 es2 ep2 t2 (Moved.trans W.gtrans ((mv.mono up).then_heap (Nat.le_add_right _ _) fun b o hb e => ?_) mv2) K3 g3 kp3
      exact (sb.2 b fun z => hb (z ▸ List.mem_cons_self)).trans e
theorem ks_new {h : Heap} {a : Addr} (ho : h.get? a = some { cls := .type "set", dict := none, data := .set #[] 0 (.fresh 0 0 (!w.params.followText "set-order")) }) : KS knd h a [] #[] 0 (.fresh 0 0 (!w.params.followText "set-order")) :=
  ⟨⟨_, ho, ⟨rfl, rfl, rfl⟩, rfl⟩, rfl, ⟨List.Pairwise.nil, rfl, rfl, .inl rfl, fun _ hx => (by cases hx), fun i _ _ hi => (by simp at hi)⟩, List.nodup_nil, fun _ hp => (by cases hp), by show 0 * 5 < 7 * 3; decide⟩
abbrev newSet (w : World) : Obj := { cls := .type "set", dict := none, data := .set #[] 0 (.fresh 0 0 (!w.params.followText "set-order")) }
/-- set(xs), xs a list: what its loop leaves -/
theorem set_call {l : Addr} {items : Array Value} {Z : Heap → Prop} {Q : Value → Shared → Prop} (hl : s.heap.IsList l items)
    (loop : ∀ {R : Result → Shared → Prop}, (∀ z, z.gens = s.gens → z.drawn = s.drawn → z.os = s.os → Z z.heap → R (.ok (.ret .none)) z) →
      codeAny (model P w) A.in1.in1 (.builtin "set.update.loop" ⟨[.ref s.heap.objs.size, .ref (s.heap.objs.size + 1)], []⟩) R { s with heap := (s.heap.push (newSet w)).push { cls := .type "list_iterator", data := .fields #[.ref l, .int 0 0] } })
    (h : ∀ (h' : Heap) (tk : Nat), Z h' → Q (.ref s.heap.objs.size) { s with heap := h', toks := tk }) :
    wpAny (model P w) A (call (.type "set") [.ref l]) Q E s := by
  obtain ⟨c, tl, hmro⟩ := F.called_set.mro
  have hmade := F.called_set.made
  have hsub := F.called_set.sub
  refine wpAny_call (codeAny_of_tree ?_)
  refine wpAny_pure ⟨Code.quiet_builtin _ (by decide +kernel), codeAny_builtin F.entry_type_call ?_⟩
  rw [Around.under_plain (weight_type_call_type "set" [.ref l] []) rfl]
  have h1 := F.called_set.notType
  have h2 := F.called_set.canCreate
  have hct := F.typeCall_set_1 (.ref l)
  repeat (any_goals (first | assumption | wp_step))
  refine codeAny_mono (code_set_led1 (.ref l) (E := E) (Q₁ := fun obj z => obj = .ref s.heap.objs.size ∧ z = { s with heap := s.heap.push (newSet w) }) ⟨rfl, rfl⟩) fun r s₁ hr => ?_
  cases r with
  | error e => exact hr
  | ok fl =>
    cases fl with
    | ret obj =>
      obtain ⟨rfl, rfl⟩ := hr
      have hS : (s.heap.push (newSet w)).get? s.heap.objs.size = some (newSet w) := Heap.get?_push_size _ rfl
      have hT : Shared.TypeIs { s with heap := s.heap.push (newSet w) } (.ref s.heap.objs.size) "set" := ⟨_, hS, rfl⟩
      have hli := F.called_set.init.lookup
      have hbi := F.called_set.init.bind (.ref s.heap.objs.size)
      repeat (any_goals (first | assumption | wp_step))
      refine codeAny_mono (codeAny_call_builtin (R := wants (fun r z => r = .none ∧ ∃ h' tk, z = { s with heap := h', toks := tk } ∧ Z h') E) F.called_set.init.plain F.entry_set_init (check_set_init_1 hT ?_)) fun r₂ s₂ hr₂ => ?_
      · have old : ∀ b o, s.heap.get? b = some o → (s.heap.push (newSet w)).get? b = some o := fun b o e => Heap.get?_push_of_some _ e
        obtain ⟨ol, l1, l2, nl, l3⟩ := hl
        obtain ⟨oc, od, oda, osl⟩ := ol
        simp only at l2 l3
        subst l2; subst l3
        have l1' := old l _ l1
        have hsls := F.sub_list_set
        have hslf := F.sub_list_frozenset
        have hne : (Value.type "list" == Value.type "dict") = false := by decide
        have lst1 : (s.heap.push (newSet w)).IsList l items := ⟨_, l1', rfl, nl, rfl⟩
        unfold Builtin.«set.__init__» noKeywords Builtin.Frozenset.updateFrom
        generalize hPI : pyIter = PI
        wp_walk
        subst hPI
        refine wpAny_pyIter_list lst1 (wpAny_bind (wpAny_runValue ?_))
        have size1 : (s.heap.push (newSet w)).objs.size = s.heap.objs.size + 1 := Heap.size_push ..
        rw [size1]
        refine loop ?_
        intro z eg ed eo hz
        obtain ⟨h', g2, d', tk', os'⟩ := z
        simp only at eg ed eo
        subst eg; subst ed; subst eo
        exact wpAny_pure (wpAny_pure ⟨rfl, h', tk', rfl, hz⟩)
      · cases r₂ with
        | error e => exact hr₂
        | ok fl₂ =>
          cases fl₂ with
          | ret r =>
            obtain ⟨rfl, h', tk, rfl, hz⟩ := hr₂
            repeat (any_goals (first | assumption | wp_step))
            exact h _ _ hz
          | _ => exact hr₂.elim
    | _ => exact hr.elim
end
end BW
namespace BW
open PySem PySem.Spec PyProof.Rows L2
section
variable {α : Type} (k : α → Int)
def insK (x : α) : List α → List α
  | [] => [x]
  | y :: l => if k x < k y then x :: y :: l else if k x = k y then y :: l else y :: insK x l
def usort (l : List α) : List α := l.foldr (insK k) []
abbrev Ri (l : List α) : Prop := l.Pairwise fun a b => k a < k b
theorem insK_sub (x : α) : ∀ (l : List α) (y : α), y ∈ insK k x l → y = x ∨ y ∈ l
  | [], y, h => by simpa [insK] using h
  | z :: l, y, h => by
    unfold insK at h
    split at h
    · simpa using h
    · split at h
      · exact .inr h
      · rcases List.mem_cons.mp h with e | e
        · exact .inr (e ▸ List.mem_cons_self)
        · rcases insK_sub x l y e with c | c
          · exact .inl c
          · exact .inr (List.mem_cons_of_mem _ c)
theorem insK_keep (x : α) : ∀ (l : List α) (y : α), y ∈ l → y ∈ insK k x l
  | z :: l, y, h => by
    unfold insK
    split
    · exact List.mem_cons_of_mem _ h
    · split
      · exact h
      · rcases List.mem_cons.mp h with e | e
        · exact e ▸ List.mem_cons_self
        · exact List.mem_cons_of_mem _ (insK_keep x l y e)
theorem insK_has (x : α) : ∀ l : List α, ∃ y ∈ insK k x l, k y = k x
  | [] => ⟨x, by simp [insK], rfl⟩
  | z :: l => by
    unfold insK
    split
    · exact ⟨x, List.mem_cons_self, rfl⟩
    · split
      · rename_i h; exact ⟨z, List.mem_cons_self, h.symm⟩
      · obtain ⟨y, h1, h2⟩ := insK_has x l
        exact ⟨y, List.mem_cons_of_mem _ h1, h2⟩
theorem insK_ri (x : α) : ∀ l : List α, Ri k l → Ri k (insK k x l)
  | [], _ => by simp [insK, Ri]
  | z :: l, h => by
    obtain ⟨h1, h2⟩ := List.pairwise_cons.mp h
    unfold insK
    split
    · rename_i c
      refine List.pairwise_cons.mpr ⟨fun y hy => ?_, h⟩
      rcases List.mem_cons.mp hy with e | e
      · rw [e]; exact c
      · have := h1 y e; omega
    · split
      · exact h
      · rename_i c1 c2
        refine List.pairwise_cons.mpr ⟨fun y hy => ?_, insK_ri x l h2⟩
        rcases insK_sub k x l y hy with e | e
        · rw [e]; omega
        · exact h1 y e
theorem usort_ri : ∀ l : List α, Ri k (usort k l)
  | [] => .nil
  | x :: l => insK_ri k x _ (usort_ri l)
theorem usort_sub : ∀ (l : List α) (y : α), y ∈ usort k l → y ∈ l
  | [], y, h => h
  | x :: l, y, h => by
    rcases insK_sub k x _ y h with e | e
    · exact e ▸ List.mem_cons_self
    · exact List.mem_cons_of_mem _ (usort_sub l y e)
theorem usort_has : ∀ (l : List α) (y : α), y ∈ l → ∃ z ∈ usort k l, k z = k y
  | x :: l, y, h => by
    rcases List.mem_cons.mp h with e | e
    · rw [e]; exact insK_has k x _
    · obtain ⟨z, h1, h2⟩ := usort_has l y e
      exact ⟨z, insK_keep k x _ z h1, h2⟩
theorem usort_mem {l : List α} (inj : ∀ a ∈ l, ∀ b ∈ l, k a = k b → a = b) (y : α) : y ∈ usort k l ↔ y ∈ l := by
  refine ⟨usort_sub k l y, fun h => ?_⟩
  obtain ⟨z, h1, h2⟩ := usort_has k l y h
  rw [← inj z (usort_sub k l z h1) y h h2]
  exact h1
theorem ri_ext : ∀ {a b : List α}, Ri k a → Ri k b → (∀ x, x ∈ a ↔ x ∈ b) → a = b
  | [], [], _, _, _ => rfl
  | [], y :: b, _, _, h => absurd ((h y).mpr List.mem_cons_self) (by simp)
  | x :: a, [], _, _, h => absurd ((h x).mp List.mem_cons_self) (by simp)
  | x :: a, y :: b, ha, hb, h => by
    obtain ⟨a1, a2⟩ := List.pairwise_cons.mp ha
    obtain ⟨b1, b2⟩ := List.pairwise_cons.mp hb
    have e : x = y := by
      rcases List.mem_cons.mp ((h x).mp List.mem_cons_self) with c | c
      · exact c
      · rcases List.mem_cons.mp ((h y).mpr List.mem_cons_self) with d | d
        · exact d.symm
        · have := a1 y d; have := b1 x c; omega
    subst e
    congr 1
    refine ri_ext a2 b2 fun z => ⟨fun hz => ?_, fun hz => ?_⟩
    · rcases List.mem_cons.mp ((h z).mp (List.mem_cons_of_mem _ hz)) with c | c
      · have := a1 z hz; rw [c] at this; omega
      · exact c
    · rcases List.mem_cons.mp ((h z).mpr (List.mem_cons_of_mem _ hz)) with c | c
      · have := b1 z hz; rw [c] at this; omega
      · exact c
theorem usort_len (l : List α) : (usort k l).length ≤ l.length := by
  induction l with
  | nil => exact Nat.le_refl _
  | cons x l ih =>
    have : ∀ m : List α, (insK k x m).length ≤ m.length + 1 := by
      intro m
      induction m with
      | nil => simp [insK]
      | cons y m ih =>
        unfold insK
        split
        · simp
        · split
          · simp
          · simp; exact ih
    exact Nat.le_trans (this _) (Nat.succ_le_succ ih)
end
section
variable {P : Program} {w : World} {κ : Type} [DecidableEq κ] {knd : PySem.KeyKind P w κ} {A : Around} {E : Value → Shared → Prop} {s : Shared}
theorem none_at {h : Heap} {b : Addr} (hb : h.objs.size ≤ b) : h.get? b = none := by
  cases q : h.get? b with
  | none => rfl
  | some o => exact absurd (Heap.lt_size q) (Nat.not_lt.mpr hb)
theorem ks_call {l : Addr} {items : Array Value} (ks : List (Addr × List κ)) {Q : Value → Shared → Prop} (hh : A.handled = none) (hl : s.heap.IsList l items) (hit : items.toList = ks.map fun p => Value.ref p.1)
    (are : ∀ p ∈ ks, IsTupleKey knd s.heap p.2 p.1) (few : ks.length < 64) (hu : A.units + 3 < cLine)
    (h : ∀ (h' : Heap) (tk : Nat) L es ep t, KS knd h' s.heap.objs.size L es ep t → Has ks ks.length L → (∀ b o, s.heap.get? b = some o → h'.get? b = some o) → Q (.ref s.heap.objs.size) { s with heap := h', toks := tk }) :
    wpAny (model P w) A (call (.type "set") [.ref l]) Q E s := by
  have sz : items.size = ks.length := by rw [← Array.length_toList, hit, List.length_map]
  have lS : l < s.heap.objs.size := by obtain ⟨o, l1, _⟩ := hl; exact Heap.lt_size l1
  have size1 : (s.heap.push (newSet w)).objs.size = s.heap.objs.size + 1 := Heap.size_push ..
  have old : ∀ b o, s.heap.get? b = some o → (s.heap.push (newSet w)).get? b = some o := fun b o e => Heap.get?_push_of_some _ e
  have lst1 : (s.heap.push (newSet w)).IsList l items := hl.push _
  have it1 : ((s.heap.push (newSet w)).push { cls := .type "list_iterator", data := .fields #[.ref l, .int 0 0] }).get? (s.heap.objs.size + 1) = some { cls := .type "list_iterator", data := .fields #[.ref l, .int 0 0] } := by rw [← size1]; exact Heap.get?_push_size _ rfl
  refine set_call hl (Z := fun h' => ∃ L es ep t, KS knd h' s.heap.objs.size L es ep t ∧ Has ks ks.length L ∧ ∀ b o, s.heap.get? b = some o → h'.get? b = some o) (fun {R} hR => ?_) fun h' tk ⟨L, es, ep, t, K, g, kp⟩ => h h' tk L es ep t K g kp
  refine ks_loop (knd := knd) ((Walks.list (show A.in1.in1.in1.handled = none by simp [hh]) (s.heap.objs.size + 1) l (Nat.ne_of_lt (Nat.lt_succ_of_lt lS)) items).toS) s.heap.objs.size
    (by simp only [List.mem_cons, List.not_mem_nil, or_false, not_or]; exact ⟨Nat.ne_of_lt (Nat.lt_succ_self _), Nat.ne_of_gt lS⟩) ks sz few (fun i v hv => ?_) s.heap are (none_at (Nat.le_refl _)) (fun b hb => none_at (by rw [List.mem_singleton.mp hb]; exact Nat.le_succ _)) hu
    (items.size - 0) 0 _ rfl (Nat.zero_le _) ⟨⟨_, it1, rfl, rfl⟩, lst1.push _⟩ (fun b o e => Heap.get?_push_of_some _ (old b o e)) ⟨[], #[], 0, _, ks_new (Heap.get?_push_of_some _ (Heap.get?_push_size _ rfl)), ⟨fun _ z => (by cases z), fun _ z => (by simp at z), Nat.le_refl _⟩⟩ ?_
  · have q : items.toList[i]? = some v := by rw [Array.getElem?_toList]; exact hv
    rw [hit, List.getElem?_map] at q
    obtain ⟨p, p1, p2⟩ := Option.map_eq_some_iff.mp q
    exact ⟨p, p1, p2.symm⟩
  · intro z L es ep t mv K g kp
    rw [sz] at g
    exact hR z mv.gens mv.drawn mv.os ⟨L, es, ep, t, K, g, kp⟩
theorem is_call {l : Addr} {items : Array Value} (ns : List Int) {Q : Value → Shared → Prop} (hh : A.handled = none) (hl : s.heap.IsList l items) (hit : IntsAre items.toList ns) (hb : ns.length + 1 < scanBound)
    (h : ∀ (h' : Heap) (tk c : Nat), SetR w h' s.heap.objs.size (fun j => decide (j ∈ ns)) c → c ≤ ns.length → (∀ b o, s.heap.get? b = some o → h'.get? b = some o) → Q (.ref s.heap.objs.size) { s with heap := h', toks := tk }) :
    wpAny (model P w) A (call (.type "set") [.ref l]) Q E s := by
  have sz : items.size = ns.length := by rw [← Array.length_toList]; exact hit.length
  have lS : l < s.heap.objs.size := by obtain ⟨o, l1, _⟩ := hl; exact Heap.lt_size l1
  have size1 : (s.heap.push (newSet w)).objs.size = s.heap.objs.size + 1 := Heap.size_push ..
  have old : ∀ b o, s.heap.get? b = some o → (s.heap.push (newSet w)).get? b = some o := fun b o e => Heap.get?_push_of_some _ e
  have lst1 : (s.heap.push (newSet w)).IsList l items := hl.push _
  have it1 : ((s.heap.push (newSet w)).push { cls := .type "list_iterator", data := .fields #[.ref l, .int 0 0] }).get? (s.heap.objs.size + 1) = some { cls := .type "list_iterator", data := .fields #[.ref l, .int 0 0] } := by rw [← size1]; exact Heap.get?_push_size _ rfl
  refine set_call hl (Z := fun h' => ∃ c, SetR w h' s.heap.objs.size (fun j => decide (j ∈ ns)) c ∧ c ≤ ns.length ∧ ∀ b o, s.heap.get? b = some o → h'.get? b = some o) (fun {R} hR => ?_) fun h' tk ⟨c, K, g, kp⟩ => h h' tk c K g kp
  refine set_update_ints ((Walks.list (show A.in1.in1.in1.handled = none by simp [hh]) (s.heap.objs.size + 1) l (Nat.ne_of_lt (Nat.lt_succ_of_lt lS)) items).toS) s.heap.objs.size
    (by simp only [List.mem_cons, List.not_mem_nil, or_false, not_or]; exact ⟨Nat.ne_of_lt (Nat.lt_succ_self _), Nat.ne_of_gt lS⟩) ns sz hb (fun i v hv => ?_) (items.size - 0) 0 _ rfl (Nat.zero_le _) ⟨⟨_, it1, rfl, rfl⟩, lst1.push _⟩ ⟨0, Nat.le_refl _, setR_new_at (Heap.get?_push_of_some _ (Heap.get?_push_size _ rfl))⟩ ?_
  · have q : items.toList[i]? = some v := by rw [Array.getElem?_toList]; exact hv
    obtain ⟨t, e⟩ := hit.int_at i v q
    have il : i < ns.length := by
      have := (List.getElem?_eq_some_iff.mp q).1
      rw [hit.length] at this
      exact this
    exact ⟨_, t, by rw [List.getD_eq_getElem?_getD, List.getElem?_eq_getElem il]; rfl, e⟩
  · intro z c mv hc K
    refine hR z mv.gens mv.drawn mv.os ⟨c, K, by rw [← sz]; exact hc, fun b o e => mv.heap b o ?_ (Heap.get?_push_of_some _ (old b o e))⟩
    have lt : b < s.heap.objs.size := Heap.lt_size e
    simp only [List.mem_cons, List.not_mem_nil, or_false, not_or]
    exact ⟨Nat.ne_of_lt lt, Nat.ne_of_lt (Nat.lt_succ_of_lt lt)⟩
end
end BW
namespace BW
open PySem PySem.Spec PyProof.Rows L2
section
variable {X : Cx}
/-- set(xs), xs a list of ints -/
def rSetI (K : PySem.W.Frag) (w : World) : List V → Hp → VK → Prop := fun xs H Q => ∃ (l : Addr) (ns : List Int), xs = [V.ref l] ∧ (SqL K H l (ns.map V.int) ∨ SqT K H l (ns.map V.int)) ∧ ns.length < 64 ∧ ∀ a c, H a = none → c ≤ ns.length → Q (.ref a) (upd H a (SetO w a (fun j => decide (j ∈ ns)) c))
theorem cr_setI (hc : X.calm = true) : CallR X (.type "set") (rSetI X.K X.w) := by
  intro pins s σ H xs us Q I r h
  obtain ⟨l, ns, rfl, hs, h64, q⟩ := h
  rw [Vals.ref1 r]
  have fin : ∀ (h' : Heap) (tk c : Nat), SetR X.w h' s.heap.objs.size (fun j => decide (j ∈ ns)) c → c ≤ ns.length → (∀ b o, s.heap.get? b = some o → h'.get? b = some o) → ∃ x H', Inv X pins σ H' { s with heap := h', toks := tk } ∧ RelV x (.ref s.heap.objs.size) ∧ Q x H' := fun h' tk c R1 hcn kp =>
    ⟨.ref _, _, I.laid (t' := tk) kp (Nat.le_refl _) (setO_new R1), rfl, q _ c (I.hok.fresh (Nat.le_refl _)) hcn⟩
  rcases hs with hs | hs
  · obtain ⟨its, rv, hl, hz⟩ := I.list hs
    exact is_call ns (I.ok.hd hc) hl.isList (by simpa using rv.ints) (by unfold scanBound; omega) fin
  · obtain ⟨its, rv, hl, hz⟩ := I.tuple hs
    exact call_set_tupI ns (I.ok.hd hc) (show s.heap.IsTuple l its.toArray from hl) (ints_of_vals rv) (by unfold scanBound; omega) fin
def ddup {α : Type} [DecidableEq α] : List α → List α
  | [] => []
  | x :: l => if x ∈ l then ddup l else x :: ddup l
/-- set(xs), xs a list of tuples of ints and texts: how many there are -/
def rLenK (K : PySem.W.Frag) : List V → Hp → VK → Prop := fun xs H Q => ∃ (l : Addr) (ks : List (Addr × List Key)), xs = [V.ref l] ∧ SqL K H l (ks.map fun p => V.ref p.1) ∧ (∀ p ∈ ks, SqT K H p.1 (p.2.map kV)) ∧ ks.length < 64 ∧ Q (.int (((ddup (ks.map (·.2))).length : Nat) : Int)) H
theorem items_keys {P : Program} {w : World} : ∀ {k : List Key} {us : List Value}, Vals (k.map kV) us → ItemsAre (mixKind P w) k us
  | [], _, .nil => .nil
  | n :: k, _, .cons r t => .cons (by
      cases n with
      | inl i => obtain ⟨tk, rfl⟩ := r; exact beq_self_eq_true i
      | inr x => obtain ⟨tk, rfl⟩ := r; exact beq_self_eq_true x) (items_keys t)
theorem Inv.isK {pins : List (Addr × Obj)} {σ : L2.St} {H : Hp} {s : Shared} {b : Addr} {k : List Key} (I : Inv X pins σ H s) (h : SqT X.K H b (k.map kV)) : IsTupleKey (mixKind X.prog X.w) s.heap k b := by
  obtain ⟨its, r, ⟨o, ho, hc, n, hd⟩, _⟩ := I.tuple h
  exact ⟨o, its.toArray, n, ho, hc, hd, by simpa using items_keys r⟩
theorem ddup_all {α : Type} [DecidableEq α] : ∀ l : List α, (ddup l).Nodup ∧ ∀ x, x ∈ ddup l ↔ x ∈ l
  | [] => ⟨.nil, fun x => Iff.rfl⟩
  | y :: l => by
    obtain ⟨h1, h2⟩ := ddup_all l
    unfold ddup
    split
    · rename_i h
      exact ⟨h1, fun x => by rw [h2, List.mem_cons]; exact ⟨.inr, fun z => z.elim (fun e => e ▸ h) id⟩⟩
    · rename_i h
      exact ⟨List.nodup_cons.mpr ⟨fun z => h ((h2 y).mp z), h1⟩, fun x => by rw [List.mem_cons, List.mem_cons, h2]⟩
theorem ddup_id {α : Type} [DecidableEq α] : ∀ {l : List α}, l.Nodup → ddup l = l
  | [], _ => rfl
  | y :: l, h => by
    obtain ⟨h1, h2⟩ := List.nodup_cons.mp h
    unfold ddup
    rw [if_neg h1, ddup_id h2]
def rLenI (K : PySem.W.Frag) : List V → Hp → VK → Prop := fun xs H Q => ∃ (l : Addr) (ns : List Int), xs = [V.ref l] ∧ SqL K H l (ns.map V.int) ∧ ns.length < 64 ∧ Q (.int (((ddup ns).length : Nat) : Int)) H
theorem pe_lenSetK {a : Expr} {ta : TA} {p p2 q pos : Pos} (hc : X.calm = true) (hu : X.A.units + 64 < cLine) (hg : Gl X "len") (hm : X.mg "len" = none) (hg2 : Gl X "set") (hm2 : X.mg "set" = none) (ha : PA X [a] ta)
    (na : starEach [a] X.env = (false, eval a X.env) :: starEach [] X.env := by rfl) : PE X (.Call (.Name "len" p) [.Call (.Name "set" p2) [a] [] q] [] pos) (tCB (fun xs H Q => rLenK X.K xs H Q ∨ rLenI X.K xs H Q) ta) := by
  refine ⟨fun pins s σ H Q I h => ?_⟩
  refine Call_ (ld_blt I hg hm PySem.boot_len ?_)
  refine PyProof.Rows.callWith_builtin1 (PyProof.Rows.args_cons ?_ rfl) rfl rfl
  refine Call_ (ld_blt I hg2 hm2 PyProof.Rows.boot_set ?_)
  refine PyProof.Rows.callWith_type1 (thn (ha.run q pins s σ H _ I h) fun us s1 ⟨vs, H1, I1, r1, q1⟩ => ?_) na rfl
  rcases q1 with ⟨l, ks, rfl, hq, hk, h64, q1⟩ | ⟨l, ns, rfl, hq, h64, q1⟩
  case inr =>
    rw [Vals.ref1 r1]
    obtain ⟨its, r, pl, hz⟩ := I1.list hq
    refine is_call ns (I1.ok.hd hc) pl.isList (by simpa using r.ints) (by unfold scanBound; omega) fun h' tk c R1 hcn kp => ?_
    refine PyProof.Rows.args_nil ?_
    obtain ⟨o, es, ep, t, o1, o2, o3, g, nd, hm3, hb, hf, hn, _⟩ := R1
    have len : es.size = (ddup ns).length := by
      obtain ⟨n1, n2⟩ := ddup_all ns
      have := ((List.perm_ext_iff_of_nodup nd n1).mpr fun x => by rw [n2, ← hm3]; simp).length_eq
      simpa using this
    have I2 : Inv X pins σ H1 { s1 with heap := h', toks := tk } := I1.kept fun b o e => kp b o e
    refine call_len_set o1 o2 o3 hf (by rw [hn]; omega) ⟨.int _, H1, I2.tok _, ⟨_, by rw [len]⟩, q1⟩
  rw [Vals.ref1 r1]
  obtain ⟨its, r, pl, hz⟩ := I1.list hq
  have refs : ∀ {ks : List (Addr × List Key)} {us : List Value}, Vals (ks.map fun p => V.ref p.1) us → us = ks.map fun p => Value.ref p.1 := by
    intro ks
    induction ks with
    | nil => intro us r; cases r; rfl
    | cons x ks ih => intro us r; cases r with | cons r t => cases r; rw [ih t]; rfl
  refine ks_call (knd := mixKind X.prog X.w) ks (I1.ok.hd hc) pl.isList (by simpa using refs r) (fun p hp => Inv.isK I1 (hk p hp)) h64 (by omega) fun h' tk L es ep t K g kp => ?_
  refine PyProof.Rows.args_nil ?_
  obtain ⟨o, o1, o2, o3⟩ := K.obj
  have sz : es.size = L.length := ents_size K.ent
  have len : L.length = (ddup (ks.map (·.2))).length := by
    obtain ⟨n1, n2⟩ := ddup_all (ks.map (·.2))
    have := ((List.perm_ext_iff_of_nodup K.dif n1).mpr fun x => by
      rw [n2]
      constructor
      · intro hx
        obtain ⟨p, hp, rfl⟩ := List.mem_map.mp hx
        exact List.mem_map_of_mem (List.mem_of_mem_take (g.low p hp))
      · intro hx
        obtain ⟨p, hp, rfl⟩ := List.mem_map.mp hx
        exact g.all p (by rw [List.take_length]; exact hp)).length_eq
    simpa using this
  have I2 : Inv X pins σ H1 { s1 with heap := h', toks := tk } := I1.kept fun b o e => kp b o e
  have fit := KS.fit (s := { s1 with heap := h', toks := tk }) K
  have le := g.few
  refine call_len_set o1 o2 o3 fit (by rw [sz]; omega) ⟨.int _, H1, I2.tok _, ⟨_, by rw [sz, len]⟩, q1⟩
end
end BW
namespace BW
open PySem PySem.Spec PyProof.Rows L2
section
variable {K : PySem.W.Frag} {cl : Str → Addr} {W : WX} {σ : L2.St}
theorem Post.imp {α β : Type} {Rl : Wd → β → α → Prop} {w : Wd} {H : Hp} {r : Res α} {Q Q' : β → Hp → Prop} (h : Post K cl W σ Rl w H r Q) (i : ∀ v H', Q v H' → Q' v H') : Post K cl W σ Rl w H r Q' := by
  cases r with
  | ok d S => exact fun w1 v H1 e1 o1 r1 => i v H1 (h w1 v H1 e1 o1 r1)
  | err c S => exact h
  | bad => exact h
theorem tG.imp {α β : Type} {Rl : Wd → β → α → Prop} {f : Env → Store → Res α} {H : Hp} {Q Q' : β → Hp → Prop} (h : tG K cl W Rl f σ H Q) (i : ∀ v H', Q v H' → Q' v H') : tG K cl W Rl f σ H Q' :=
  let ⟨w, ρ, S, o, n, p⟩ := h; ⟨w, ρ, S, o, n, p.imp i⟩
end
def pairK (p : Int × Int) : Int := p.1 * 64 + p.2
def pD (p : Int × Int) : D := .tup [.int p.1, .int p.2]
def ipairs? : List D → Option (List (Int × Int))
  | [] => some []
  | .tup [.int x, .int y] :: l => (ipairs? l).map ((x, y) :: ·)
  | _ :: _ => none
def bdP (p : Int × Int) : Bool := decide (0 ≤ p.1 ∧ p.1 < 64 ∧ 0 ≤ p.2 ∧ p.2 < 64)
def gSS : List D → Store → Option D
  | [.lst l], _ => match ints? l with
    | some ns => if ns.length < 64 then some (.lst ((usort (fun i => i) ns).map .int)) else none
    | none => match ipairs? l with
      | some ps => if ps.length < 64 ∧ ps.all bdP = true then some (.lst ((usort pairK ps).map pD)) else none
      | none => none
  | [.tup l], _ => match ints? l with
    | some ns => if ns.length < 64 then some (.lst ((usort (fun i => i) ns).map .int)) else none
    | none => none
  | _, _ => none
def keyL? : List D → Option (List Key)
  | [] => some []
  | .int i :: l => (keyL? l).map (.inl i :: ·)
  | .str x :: l => (keyL? l).map (.inr x :: ·)
  | _ :: _ => none
def tkeys? : List D → Option (List (List Key))
  | [] => some []
  | .tup a :: l => (keyL? a).bind fun k => (tkeys? l).map (k :: ·)
  | _ :: _ => none
def gLenSet : List D → Store → Option D
  | [.lst l], _ => match ints? l with
    | some ns => if ns.length < 64 then some (.int (ddup ns).length) else none
    | none => match tkeys? l with
      | some ks => if ks.length < 64 then some (.int (ddup ks).length) else none
      | none => none
  | _, _ => none
section
variable {K : PySem.W.Frag} {w : Wd}
theorem ra_pairs : ∀ {l : List D} {vs : List V} {ps : List (Int × Int)}, RA K w vs l → ipairs? l = some ps → ∃ ks : List (Addr × List Int), vs = ks.map (fun p => V.ref p.1) ∧ (∀ p ∈ ks, SqT K w.F p.1 (p.2.map V.int) ∧ TD K w.F p.1) ∧ ks.map (·.2) = ps.map fun p => [p.1, p.2]
  | [], _, _, .nil, e => by cases e; exact ⟨[], rfl, fun _ h => (by cases h), rfl⟩
  | d :: l, _, ps, .cons r t, e => by
    unfold ipairs? at e
    split at e
    · rename_i h; cases h
    · rename_i x y l' h
      cases h
      obtain ⟨ps', e1, rfl⟩ := Option.map_eq_some_iff.mp e
      obtain ⟨ks, h1, h2, h3⟩ := ra_pairs t e1
      obtain ⟨a, us, rfl, hs, ru⟩ := r.tup_inv
      have td := r.tup_td
      have eu : us = [V.int x, V.int y] := by
        cases ru with
        | cons r1 t1 =>
          cases t1 with
          | cons r2 t2 => cases t2; cases r1; cases r2; rfl
      subst eu
      refine ⟨(a, [x, y]) :: ks, by rw [h1]; rfl, fun p hp => ?_, by rw [List.map_cons, h3]; rfl⟩
      rcases List.mem_cons.mp hp with e | e
      · rw [e]; exact ⟨hs, td⟩
      · exact h2 p e
    · cases e
theorem ra_keyL : ∀ {l : List D} {vs : List V} {k : List Key}, RA K w vs l → keyL? l = some k → vs = k.map kV
  | [], _, _, .nil, e => by cases e; rfl
  | .int i :: l, _, k, .cons r t, e => by
    obtain ⟨k', e1, rfl⟩ := Option.map_eq_some_iff.mp e
    cases r
    rw [ra_keyL t e1]; rfl
  | .str i :: l, _, k, .cons r t, e => by
    obtain ⟨k', e1, rfl⟩ := Option.map_eq_some_iff.mp e
    cases r
    rw [ra_keyL t e1]; rfl
  | .non :: _, _, _, _, e => by cases e
  | .bl _ :: _, _, _, _, e => by cases e
  | .tup _ :: _, _, _, _, e => by cases e
  | .lst _ :: _, _, _, _, e => by cases e
  | .dic _ :: _, _, _, _, e => by cases e
  | .scr _ :: _, _, _, _, e => by cases e
  | .ref _ :: _, _, _, _, e => by cases e
theorem ra_tkeys : ∀ {l : List D} {vs : List V} {ps : List (List Key)}, RA K w vs l → tkeys? l = some ps → ∃ ks : List (Addr × List Key), vs = ks.map (fun p => V.ref p.1) ∧ (∀ p ∈ ks, SqT K w.F p.1 (p.2.map kV)) ∧ ks.map (·.2) = ps
  | [], _, _, .nil, e => by cases e; exact ⟨[], rfl, fun _ h => (by cases h), rfl⟩
  | d :: l, _, ps, .cons r t, e => by
    unfold tkeys? at e
    split at e
    · rename_i h; cases h
    · rename_i x l' h
      cases h
      obtain ⟨k, e0, e⟩ := Option.bind_eq_some_iff.mp e
      obtain ⟨ps', e1, rfl⟩ := Option.map_eq_some_iff.mp e
      obtain ⟨ks, h1, h2, h3⟩ := ra_tkeys t e1
      obtain ⟨a, us, rfl, hs, ru⟩ := r.tup_inv
      rw [ra_keyL ru e0] at hs
      refine ⟨(a, k) :: ks, by rw [h1]; rfl, fun p hp => ?_, by rw [List.map_cons, h3]⟩
      rcases List.mem_cons.mp hp with e | e
      · rw [e]; exact hs
      · exact h2 p e
    · cases e
end
theorem code_pairK (p : Int × Int) : TS.code 64 [p.1, p.2] = pairK p := code_pair p.1 p.2
theorem pairK_inj {p q : Int × Int} (hp : bdP p = true) (hq : bdP q = true) (e : pairK p = pairK q) : p = q := by
  unfold bdP at hp hq
  simp only [decide_eq_true_eq] at hp hq
  unfold pairK at e
  obtain ⟨a, b⟩ := p
  obtain ⟨c, d⟩ := q
  simp only at *
  have : a = c := by omega
  subst this
  have : b = d := by omega
  subst this
  rfl
section
variable {X : Cx} {cl : Str → Addr} {W : WX}
theorem de_sortedSet {e : Expr} {p p2 q pos : Pos} {fa : Env → Store → Res (List D)} (hc : X.calm = true) (hu : X.A.units + 64 < cLine) (hg : Gl X "sorted") (hm : X.mg "sorted" = none) (hg2 : Gl X "set") (hm2 : X.mg "set" = none) (ha : DA X cl W [e] fa)
    (he : starEach [e] X.env = (false, eval e X.env) :: starEach [] X.env := by rfl) (he2 : starEach [.Call (.Name "set" p2) [e] [] q] X.env = (false, eval (.Call (.Name "set" p2) [e] [] q) X.env) :: starEach [] X.env := by rfl) :
    DE X cl W (.Call (.Name "sorted" p) [.Call (.Name "set" p2) [e] [] q] [] pos) (fN gSS fa) := by
  refine PE.imp (pe_callB (CallR.or (cr_sortedSet hc) (cr_sortedT hc)) hg hm boot_sorted (pa_cons (pe_callTy (CallR.or (cr_setI hc) (cr_setOfT hc hu)) hg2 hm2 boot_set ha (by decide) (by decide) he rfl) pa_nil he2) (by decide) (by decide) he2 rfl) fun σ H Q h => ?_
  refine tG.imp (tN_of h) fun vs H1 h1 => ?_
  obtain ⟨w, S, ds, z, k, ra, hg, fin⟩ := h1
  have onInts : ∀ (l : Addr) (ns : List Int), vs = [V.ref l] → (SqL X.K H1 l (ns.map V.int) ∨ SqT X.K H1 l (ns.map V.int)) → ns.length < 64 → z = .lst ((usort (fun i => i) ns).map .int) → (rSetI X.K X.w vs H1 fun x H1 => tNil σ H1 fun xs H2 => rSortedSet X.w (x :: xs) H2 Q ∨ rSortedT X.K X.prog X.w (x :: xs) H2 Q) := by
    intro l ns e1 hs h64 ez
    refine ⟨l, ns, e1, hs, h64, fun a c na hcn => .inl ⟨a, _, c, rfl, upd_same, by omega, fun ms p ri mem len np => ?_⟩⟩
    have em : ms = usort (fun i => i) ns := ri_ext (fun i => i) ri (usort_ri _ ns) fun x => by rw [mem, usort_mem (fun i => i) (fun a _ b _ e => e)]; simp
    subst em
    have k1 : Ok X.K cl w S (upd H1 a (SetO X.w a (fun j => decide (j ∈ ns)) c)) := k.mut (k.hid na)
    obtain ⟨e2, o2, r2⟩ := k1.layL np (ra_ints (usort (fun i => i) ns))
    rw [ez] at fin
    exact fin _ _ _ (((Ext.refl w H1).mut na).trans e2) o2 r2
  unfold gSS at hg
  split at hg
  · rename_i l
    obtain ⟨v, rfl, rv⟩ := ra1 ra
    obtain ⟨a, us, rfl, hl, ru⟩ := rv.lst_inv
    split at hg
    · rename_i ns hns
      split at hg
      · rename_i h64
        cases hg
        have eu := ints_ra ru hns
        subst eu
        exact .inl (onInts a ns rfl (.inl (k.sqL hl)) h64 rfl)
      · cases hg
    · split at hg
      · rename_i ps hps
        split at hg
        · rename_i hb
          obtain ⟨h64, hb⟩ := hb
          cases hg
          obtain ⟨ks, rfl, h2t, h3⟩ := ra_pairs ru hps
          have h2 := fun p hp => (h2t p hp).1
          have lks : ks.length = ps.length := by have := congrArg List.length h3; simpa using this
          refine .inr ⟨a, ks, rfl, k.sqL hl, fun p hp => k.sqT (h2 p hp), by rw [lks]; exact h64, fun s L ns l1 l2 => .inr ⟨s, L, 2, 64, rfl, upd_same, fun p hp => ?_, by decide, fun p hp => ?_, fun L' q pm nd few pw nq => ?_⟩⟩
          · have t0 := k.sqT (h2 p (l1 p hp))
            have : Same H1 (upd H1 s (SetTO X.prog X.w s L)) := fun b o hb => by rw [upd_ne (ne_of_none hb ns)]; exact hb
            exact SqT.mono this t0
          · have hm : p.2 ∈ ks.map (·.2) := List.mem_map_of_mem (l1 p hp)
            rw [h3] at hm
            obtain ⟨q, hq, eq⟩ := List.mem_map.mp hm
            have bq := List.all_eq_true.mp hb q hq
            unfold bdP at bq
            simp only [decide_eq_true_eq] at bq
            rw [← eq]
            refine ⟨rfl, fun m hm => ?_⟩
            simp only [List.mem_cons, List.not_mem_nil, or_false] at hm
            rcases hm with e | e <;> subst e <;> omega
          · have key : ∃ qs : List (Int × Int), L'.map (·.2) = qs.map (fun p => [p.1, p.2]) ∧ ∀ p ∈ qs, p ∈ ps := by
              have all : ∀ p ∈ L', ∃ q ∈ ps, p.2 = [q.1, q.2] := fun p hp => by
                have hm : p.2 ∈ ks.map (·.2) := List.mem_map_of_mem (l1 p (pm.mem_iff.mp hp))
                rw [h3] at hm
                obtain ⟨q, hq, eq⟩ := List.mem_map.mp hm
                exact ⟨q, hq, eq.symm⟩
              clear pm nd few pw
              induction L' with
              | nil => exact ⟨[], rfl, fun _ h => (by cases h)⟩
              | cons x L' ih =>
                obtain ⟨qs, e1, e2⟩ := ih fun p hp => all p (List.mem_cons_of_mem _ hp)
                obtain ⟨q, hq, eq⟩ := all x List.mem_cons_self
                exact ⟨q :: qs, by rw [List.map_cons, e1, eq]; rfl, fun p hp => by
                  rcases List.mem_cons.mp hp with e | e
                  · rw [e]; exact hq
                  · exact e2 p e⟩
            obtain ⟨qs, q1, q2⟩ := key
            have pw2 : qs.Pairwise fun a b => pairK a ≤ pairK b := by
              have z : (L'.map (·.2)).Pairwise fun a b => TS.code 64 a ≤ TS.code 64 b := by rw [List.pairwise_map]; exact pw
              rw [q1, List.pairwise_map] at z
              exact z.imp fun {a b} h => by rw [code_pairK, code_pairK] at h; exact h
            have nd2 : qs.Nodup := by
              rw [q1] at nd
              exact List.Pairwise.of_map (fun p : Int × Int => [p.1, p.2]) (fun a b hne e => hne (congrArg (fun p : Int × Int => [p.1, p.2]) e)) nd
            have bq : ∀ q ∈ qs, bdP q = true := fun q hq => List.all_eq_true.mp hb q (q2 q hq)
            have ri : Ri pairK qs := by
              clear q1
              induction qs with
              | nil => exact .nil
              | cons x qs ih =>
                obtain ⟨a1, a2⟩ := List.pairwise_cons.mp pw2
                obtain ⟨b1, b2⟩ := List.nodup_cons.mp nd2
                refine List.pairwise_cons.mpr ⟨fun y hy => ?_, ih (fun p hp => q2 p (List.mem_cons_of_mem _ hp)) a2 b2 fun q hq => bq q (List.mem_cons_of_mem _ hq)⟩
                have := a1 y hy
                rcases Int.lt_or_eq_of_le this with c | c
                · exact c
                · have := pairK_inj (bq x List.mem_cons_self) (bq y (List.mem_cons_of_mem _ hy)) c
                  exact absurd (this ▸ hy) b1
            have eq : qs = usort pairK ps := ri_ext pairK ri (usort_ri _ ps) fun x => by
              rw [usort_mem pairK (fun a ha b hb' e => pairK_inj (List.all_eq_true.mp hb a ha) (List.all_eq_true.mp hb b hb') e)]
              refine ⟨q2 x, fun hx => ?_⟩
              have hm : [x.1, x.2] ∈ ks.map (·.2) := by rw [h3]; exact List.mem_map_of_mem (f := fun p : Int × Int => [p.1, p.2]) hx
              obtain ⟨p0, hp0, e0⟩ := List.mem_map.mp hm
              have h4 := l2 p0 hp0
              obtain ⟨p1, hp1, e1⟩ := List.mem_map.mp h4
              have h5 : [x.1, x.2] ∈ L'.map (·.2) := by
                rw [← e0, ← e1]
                exact List.mem_map_of_mem (pm.mem_iff.mpr hp1)
              rw [q1] at h5
              obtain ⟨y, hy, ey⟩ := List.mem_map.mp h5
              have : y = x := by
                obtain ⟨y1, y2⟩ := y
                obtain ⟨x1, x2⟩ := x
                simp only [List.cons.injEq, and_true] at ey
                rw [ey.1, ey.2]
              rw [← this]; exact hy
            subst eq
            have k1 : Ok X.K cl w S (upd H1 s (SetTO X.prog X.w s L)) := k.mut (k.hid ns)
            have rr : RA X.K w (L'.map fun q => V.ref q.1) ((usort pairK ps).map pD) := by
              have sq : ∀ p ∈ L', SqT X.K w.F p.1 (p.2.map V.int) ∧ TD X.K w.F p.1 := fun p hp => h2t p (l1 p (pm.mem_iff.mp hp))
              generalize usort pairK ps = qs at q1
              clear pm nd few pw pw2 nd2 bq ri q2
              induction L' generalizing qs with
              | nil => cases qs with
                | nil => exact .nil
                | cons y qs => cases q1
              | cons x L' ih => cases qs with
                | nil => cases q1
                | cons y qs =>
                  simp only [List.map_cons, List.cons.injEq] at q1
                  refine .cons ?_ (ih (fun p hp => sq p (List.mem_cons_of_mem _ hp)) qs q1.2)
                  have := (sq x List.mem_cons_self).1
                  rw [q1.1] at this
                  exact .tup this (sq x List.mem_cons_self).2 (.cons (.int _) (.cons (.int _) .nil))
            obtain ⟨e2, o2, r2⟩ := k1.layL nq rr
            exact fin _ _ _ (((Ext.refl w H1).mut ns).trans e2) o2 r2
        · cases hg
      · cases hg
  · rename_i l
    obtain ⟨v, rfl, rv⟩ := ra1 ra
    obtain ⟨a, us, rfl, hl, ru⟩ := rv.tup_inv
    split at hg
    · rename_i ns hns
      split at hg
      · rename_i h64
        cases hg
        have eu := ints_ra ru hns
        subst eu
        exact .inl (onInts a ns rfl (.inr (k.sqT hl)) h64 rfl)
      · cases hg
    · cases hg
  · cases hg
theorem de_lenSet {e : Expr} {p p2 q pos : Pos} {fa : Env → Store → Res (List D)} (hc : X.calm = true) (hu : X.A.units + 64 < cLine) (hg : Gl X "len") (hm : X.mg "len" = none) (hg2 : Gl X "set") (hm2 : X.mg "set" = none) (ha : DA X cl W [e] fa)
    (he : starEach [e] X.env = (false, eval e X.env) :: starEach [] X.env := by rfl) :
    DE X cl W (.Call (.Name "len" p) [.Call (.Name "set" p2) [e] [] q] [] pos) (fN gLenSet fa) := by
  refine PE.imp (pe_lenSetK hc hu hg hm hg2 hm2 ha he) fun σ H Q h => ?_
  refine tG.imp (tN_of h) fun vs H1 h1 => ?_
  obtain ⟨w, S, ds, z, k, ra, hg, fin⟩ := h1
  unfold gLenSet at hg
  split at hg
  · rename_i l
    obtain ⟨v, rfl, rv⟩ := ra1 ra
    obtain ⟨a, us, rfl, hl, ru⟩ := rv.lst_inv
    split at hg
    · rename_i ns hns
      split at hg
      · rename_i h64
        cases hg
        have eu := ints_ra ru hns
        subst eu
        exact .inr ⟨a, ns, rfl, k.sqL hl, h64, fin _ _ _ (Ext.refl _ _) k (.int _)⟩
      · cases hg
    · split at hg
      · rename_i ps hps
        split at hg
        · rename_i h64
          cases hg
          obtain ⟨ks, rfl, h2, rfl⟩ := ra_tkeys ru hps
          rw [List.length_map] at h64
          exact .inl ⟨a, ks, rfl, k.sqL hl, fun p hp => k.sqT (h2 p hp), h64, fin _ _ _ (Ext.refl _ _) k (.int _)⟩
        · cases hg
      · cases hg
  · cases hg
end
end BW
namespace BW
open PySem PySem.Spec PyProof.Rows L2
section
variable {X : Cx} {cl : Str → Addr} {e : Pt} {W : WX} {pos : Pos}
def whileL (t : BW.Env → Store → Res Bool) (g : Stm) : Nat → Stm
  | 0, _, _ => .bad
  | n + 1, ρ, S => Out.of (t ρ S) ρ fun b S1 => if b = true then (match g ρ S1 with
      | .next ρ2 S2 => whileL t g n ρ2 S2
      | .cont ρ2 S2 => whileL t g n ρ2 S2
      | .brk ρ2 S2 => .next ρ2 S2
      | .ret d S2 => .ret d S2
      | .err c ρ2 S2 => .err c ρ2 S2
      | .bad => .bad) else .next ρ S1
def FUEL : Nat := 1000
def sWhile (t : BW.Env → Store → Res Bool) (g : Stm) : Stm := fun ρ S => whileL t g FUEL ρ S
theorem ds_while {c : Expr} {body : List Stmt} {t : BW.Env → Store → Res Bool} {g : Stm} (hp : PassesOwn (model X.prog X.w) X.A X.env X.xe) (hc : DT X cl W c t) (hb : DSs X cl e W body g) : DS X cl e W (.While c body [] pos) (sWhile t g) := by
  refine PS.imp (ps_while hp hc hb) fun Z σ H ⟨w, ρ, S, fs, p⟩ => ?_
  refine ⟨fun m σ H => ∃ w' ρ S, Le w w' ∧ Fs X.K cl e σ H w' ρ S ∧ PostS X.K cl e W w' Z (whileL t g m ρ S), ⟨FUEL, w, ρ, S, Le.refl _, fs, p⟩, fun m σ H ⟨w', ρ, S, l', fs, p⟩ => ?_⟩
  cases m with
  | zero => exact p.elim
  | succ m =>
    unfold whileL at p
    refine fs.tG (PostS.expr p fs fun b S1 w1 v H1 e1 f1 r1 p1 => ?_)
    cases (show v = b from r1)
    cases b with
    | false =>
      rw [if_neg Bool.false_ne_true] at p1 ⊢
      exact p1 w1 σ H1 (Le.refl _) f1
    | true =>
      rw [if_pos rfl] at p1 ⊢
      refine ⟨fun σ' H' => ∃ w2 ρ2 S2, Le w w2 ∧ Fs X.K cl e σ' H' w2 ρ2 S2 ∧ PostS X.K cl e W w2 Z (whileL t g m ρ2 S2), fun σ' H' h => ⟨m, Nat.lt_succ_self _, h⟩, w1, ρ, S1, f1, ?_⟩
      cases hg : g ρ S1 with
      | next ρ2 S2 => rw [hg] at p1; exact fun w2 σ2 H2 l2 f2 => ⟨w2, ρ2, S2, l'.trans (e1.le.trans l2), f2, PostS.le l2 p1⟩
      | cont ρ2 S2 => rw [hg] at p1; exact fun w2 σ2 H2 l2 f2 => ⟨w2, ρ2, S2, l'.trans (e1.le.trans l2), f2, PostS.le l2 p1⟩
      | brk ρ2 S2 => rw [hg] at p1; exact p1
      | ret d S2 => rw [hg] at p1; exact p1
      | err c ρ2 S2 => rw [hg] at p1; exact p1
      | bad => rw [hg] at p1; exact p1.elim
theorem de_make0 {k j n : Nat} {c : Str} {ps : List Str} {m : List D → Store → Res D} {p : Pos} (G : DfC X.prog X.w X.K X.mg X.base cl k c ps m) (hr : Room j X.A) (hj : k + 1 ≤ j) (hg : Gl X c) (tk : Takes X W) (hn : n = ps.length := by rfl)
    (hdb : (c == ("__debug__" : Str)) = false := by decide) : DE X cl W (.Call (.Name c p) [] [] pos) (fMake c n m fNil) := by
  subst hn
  obtain ⟨f, fd, M, F, hm, hb⟩ := G.ex
  refine ⟨fun pins s σ H Q I h => wpAny_Call_Name_kw (ld_glob I hg hm ?_ hdb)⟩
  obtain ⟨w, ρ, S, o, n, p1⟩ := h
  refine PySem.W.callWith_K0 I.kIn M.kp (run_makeT (us := []) M F (hr.mono hj) hb (passAt tk σ) I .nil fun x dx hx hd ne => ?_)
  have p1 : Post X.K cl W σ (R X.K) w H (if ([] : List D).length + 1 = ps.length then (m [.ref S.length] (S ++ [.ins c []])).bind fun r S2 => (match r with
      | .non => .ok (.ref S.length) S2
      | _ => .bad) else .bad) Q := p1
  split at p1
  · rename_i hl
    obtain ⟨e2, o2⟩ := o.made (c := c) hx hd ne
    have kx : (w.new x).k S.length = x := by
      show (if S.length = w.n then x else _) = x
      rw [if_pos o.len.symm]
    have rx : R X.K (w.new x) (.ref x) (.ref S.length) := by
      have := R.ref (K := X.K) (w := w.new x) (i := S.length) (by show _ < w.n + 1; rw [o.len]; omega)
      rw [kx] at this
      exact this
    refine ⟨w.new x, S ++ [.ins c []], [.ref S.length], o2, .one rx, by simpa using hl, ?_⟩
    cases hmr : m [.ref S.length] (S ++ [.ins c []]) with
    | bad => rw [hmr] at p1; exact p1
    | err c' S2 => rw [hmr] at p1; exact fun w2 H2 x2 y2 => p1 w2 H2 (e2.trans x2) y2
    | ok d S2 =>
      rw [hmr] at p1
      intro w2 v H2 e3 o3 r3
      cases d with
      | non =>
        cases r3
        exact ⟨rfl, p1 w2 _ H2 (e2.trans e3) o3 (rx.mono e3.le)⟩
      | _ => exact p1.elim
  · exact p1.elim
end
end BW
namespace BW
open PySem PySem.Spec PyProof.Rows L2
section
variable {P : Program} {w : World} {A : Around} {E : Value → Shared → Prop} {s : Shared}
/-- the heap when a sequence was gathered -/
abbrev gath (h : Heap) (vs : List Value) : Heap := (h.push (seqObj "list" #[] 0)).update h.objs.size (Obj.mapSeq (· ++ vs.toArray))
theorem collT {t : Addr} {vs : List Value} {Q : List Value → Shared → Prop} (ht : IsTup s.heap t vs.toArray) (hz : vs.length ≤ sizeLine) (h : Q vs { s with heap := gath s.heap vs }) : wpAny (model P w) A (collect (.ref t)) Q E s := by
  obtain ⟨o, o1, o2, n, o3⟩ := ht
  have new1 : (s.heap.push (seqObj "list" #[] 0)).get? s.heap.objs.size = some (seqObj "list" #[] 0) := Heap.get?_push_size _ rfl
  have old1 := Heap.get?_push_of_some (h := s.heap) (seqObj "list" #[] 0) o1
  unfold collect
  refine wpAny_bind (wpAny_runValue (codeAny_builtin entry_proto_collect' ?_))
  show wpAny _ _ (do again (.builtin "list.__iadd__" ⟨[← newList [], .ref t], []⟩)) _ _ s
  refine wpAny_bind (wpAny_newList (wpAny_pure ⟨Code.quiet_builtin _ (by decide +kernel), codeAny_builtin entry_list_iadd' ?_⟩))
  show wpAny _ _ (Builtin.List.listExtendWith (.ref s.heap.objs.size) (.ref t) (.ref s.heap.objs.size)) _ _ { s with heap := s.heap.push (seqObj "list" #[] 0) }
  unfold Builtin.List.listExtendWith
  refine wpAny_bind (wpAny_typeOf (T := "tuple") ⟨o, old1, o2⟩ ?_)
  rw [if_pos (by rw [show (Value.type "tuple" == Value.type "tuple") = true from rfl]; simp)]
  refine wpAny_bind (listItems_at old1 o3 (wpAny_bind (listItems_at (xs := #[]) (n := 0) new1 rfl ?_)))
  rw [if_neg (by simp)]
  refine wpAny_bind (listUpdate_at (xs := #[]) (n := 0) new1 rfl ?_ (Nat.zero_le _) (by show (#[] ++ vs.toArray).size ≤ sizeLine + 1; simp; omega))
  refine wpAny_pure ?_
  show wpAny (model P w) A (load s.heap.objs.size >>= _) Q E { s with heap := gath s.heap vs }
  refine wpAny_bind (wpAny_load (get?_update_seq new1 _) ?_)
  show wpAny _ _ (pure ((#[] : Array Value) ++ vs.toArray).toList) Q E _
  rw [show ((#[] : Array Value) ++ vs.toArray).toList = vs by simp]
  exact wpAny_pure h
theorem sortedT {t : Addr} {vs : List Value} {ltv : Value → Value → Bool} {Q : Value → Shared → Prop} (O : SrtO.Swo ltv) (ht : IsTup s.heap t vs.toArray) (hz : vs.length ≤ sizeLine)
    (can : 2 ≤ vs.length → ∀ (h₁ : Heap) (a : Addr), SrtO.SortableO P w A.in1.in1 { s with heap := h₁ } a vs ltv)
    (h : ∀ out : List Value, SrtO.Srtd ltv out → SrtO.Stb ltv out vs → Q (.ref (s.heap.objs.size + 1)) { s with heap := sortedAll s.heap vs out.toArray }) :
    wpAny (model P w) A (call (.builtin "sorted") [.ref t]) Q E s := by
  refine Calls.call_function_entry kind_sorted plain_sorted entry_sorted (args_sorted1 _) ?_
  unfold Builtin.«sorted»
  refine wpAny_bind (m := checkCount "sorted" 1 1 _) (wpAny_pure ?_)
  refine wpAny_bind (collT ht hz (wpAny_bind (wpAny_newList ?_ hz)))
  have size1 : (gath s.heap vs).objs.size = s.heap.objs.size + 1 := by rw [Heap.size_update, size_push']
  have atL : ((gath s.heap vs).push (seqObj "list" vs.toArray 0)).get? (s.heap.objs.size + 1) = some (seqObj "list" vs.toArray 0) := by
    rw [← size1]; exact Heap.get?_push_size _ rfl
  show wpAny _ _ _ _ _ { s with heap := (gath s.heap vs).push (seqObj "list" vs.toArray 0) }
  rw [size1]
  refine wpAny_bind (wpAny_holding (wpAny_call_entry slot_list_sort ⟨_, atL, rfl⟩ entry_list_sort (SrtO.list_sort_ord O atL hz (fun h2 => can h2 _ _) fun out h1 h2 => ⟨_, rfl, ?_⟩) (args_list_sort _)))
  exact wpAny_pure ⟨_, rfl, h out h1 h2⟩
end
section
variable {X : Cx} {cl : Str → Addr} {W : WX}
def rSortTI (K : PySem.W.Frag) : List V → Hp → VK → Prop := fun vs H Q => ∃ (a : Addr) (ns : List Int), vs = [V.ref a] ∧ SqT K H a (ns.map V.int) ∧ ∀ (ns' : List Int) (p : Addr), ns'.Perm ns → ns'.Pairwise (· ≤ ·) → H p = none → Q (.ref p) (upd H p (.lst (ns'.map V.int)))
theorem cr_sortTI : CallR X (.builtin "sorted") (rSortTI X.K) := by
  intro pins s σ H vs us Q I r h
  obtain ⟨a, ns, rfl, hs, q⟩ := h
  obtain ⟨its, rv, ht, hz⟩ := I.tuple hs
  rw [Vals.ref1 r]
  have hi := rv.ints
  refine sortedT SrtO.swo_int ht (by rw [← rv.length]; exact hz) (fun h2 h₁ a' => SrtO.ints_sortable hi h2) fun out h1 h2 => ?_
  obtain ⟨k1, k2, k3⟩ := SrtO.ints_out hi h1 h2
  obtain ⟨ep, he'⟩ := PyProof.Rows.sortedAll_at s.heap its out.toArray
  refine ⟨.ref _, upd H (s.heap.objs.size + 1) (.lst ((out.map SrtO.iv).map V.int)), I.laid (t' := s.toks) (fun _ _ => PyProof.Rows.sortedAll_old) (Nat.le_succ _) ⟨?_, out, ep, vals_of_ints k1, he'⟩, rfl, q _ _ k2 k3 (I.hok.fresh (Nat.le_succ _))⟩
  rw [List.length_map, k2.length_eq]
  rw [List.length_map] at hz
  exact hz
def gSortedY : List D → Store → Option D
  | [.tup l], _ => (ints? l).map fun ns => .lst ((isort ns).map .int)
  | ds, S => gSortedX ds S
theorem c_sortedY (hc : X.calm = true) : CallR X (.builtin "sorted") (rN X.K cl gSortedY) := by
  refine ofN (CallR.or (c_sortedX (cl := cl) hc) cr_sortTI) fun xs H Q w S ds z k r hg q => ?_
  unfold gSortedY at hg
  split at hg
  · rename_i l
    cases hb : ints? l with
    | none => rw [hb] at hg; cases hg
    | some ns =>
      rw [hb] at hg; cases hg
      obtain ⟨v, rfl, rv⟩ := ra1 r
      obtain ⟨a, vs, rfl, ha, ra⟩ := rv.tup_inv
      have e := ints_ra ra hb
      subst e
      refine .inr ⟨a, ns, rfl, k.sqT ha, fun ns' p perm ris hp => ?_⟩
      have e : ns' = isort ns := perm_le_eq (perm.trans (isort_perm ns).symm) ris (isort_le ns)
      subst e
      obtain ⟨e, o, rr⟩ := k.layL hp (ra_ints (isort ns))
      exact q _ _ _ e o rr
  · exact .inl ⟨w, S, ds, z, k, r, hg, q⟩
end
@[simp] theorem o_sortYL (S : Store) (l : List D) : gSortedY [.lst l] S = gSorted [.lst l] S := rfl
@[simp] theorem o_sortYD (S : Store) (l : List (Key × D)) : gSortedY [.dic l] S = gSortedX [.dic l] S := rfl
end BW
namespace BW
open PySem PySem.Spec PyProof.Rows L2
def gRev : D → Option D
  | .lst l => some (.lst l.reverse)
  | _ => none
def fRev (f : BW.Env → Store → Res D) : BW.Env → Store → Res D := fun ρ S => (f ρ S).bind fun d S1 => Res.of S1 (gRev d)
@[simp] theorem e_fRev (ρ : BW.Env) (S : Store) (f : BW.Env → Store → Res D) : fRev f ρ S = (f ρ S).bind fun d S1 => Res.of S1 (gRev d) := rfl
end BW
namespace BW
open PySem PySem.Spec PyProof.Rows L2
def fRg1 (f : BW.Env → Store → Res D) : BW.Env → Store → Res (Int × Int) := fun ρ S => (f ρ S).bind fun d S1 => match d with
  | .int n => .ok (0, n) S1
  | _ => .bad
def fRg2 (f g : BW.Env → Store → Res D) : BW.Env → Store → Res (Int × Int) := fun ρ S => (f ρ S).bind fun d S1 => (g ρ S1).bind fun e S2 => match d, e with
  | .int i, .int j => .ok (i, j) S2
  | _, _ => .bad
def smallRg (p : Int × Int) : Bool := decide (-100000 ≤ p.1 ∧ p.1 ≤ 100000 ∧ -100000 ≤ p.2 ∧ p.2 ≤ 100000)
def fListRg (g : BW.Env → Store → Res (Int × Int)) : BW.Env → Store → Res D := fun ρ S => (g ρ S).bind fun p S1 => if smallRg p = true then .ok (.lst (rngD p.1 (p.2 - p.1).toNat)) S1 else .bad
def fLenRg (g : BW.Env → Store → Res (Int × Int)) : BW.Env → Store → Res D := fun ρ S => (g ρ S).bind fun p S1 => if smallRg p = true then .ok (.int ((p.2 - p.1).toNat : Nat)) S1 else .bad
def fInRg (neg : Bool) (f : BW.Env → Store → Res D) (g : BW.Env → Store → Res (Int × Int)) : BW.Env → Store → Res D := fun ρ S => (f ρ S).bind fun d S1 => (g ρ S1).bind fun p S2 => match d with
  | .int i => .ok (.bl (xor neg (decide (p.1 ≤ i ∧ i < p.2)))) S2
  | _ => .bad
section
variable (ρ : BW.Env) (S : Store)
@[simp] theorem e_fRg1 (f : BW.Env → Store → Res D) : fRg1 f ρ S = (f ρ S).bind fun d S1 => match d with | .int n => .ok ((0 : Int), n) S1 | _ => .bad := rfl
@[simp] theorem e_fRg2 (f g : BW.Env → Store → Res D) : fRg2 f g ρ S = (f ρ S).bind fun d S1 => (g ρ S1).bind fun e S2 => match d, e with | .int i, .int j => (.ok (i, j) S2 : Res (Int × Int)) | _, _ => .bad := rfl
@[simp] theorem e_fListRg (g : BW.Env → Store → Res (Int × Int)) : fListRg g ρ S = (g ρ S).bind fun p S1 => if smallRg p = true then .ok (.lst (rngD p.1 (p.2 - p.1).toNat)) S1 else .bad := rfl
@[simp] theorem e_fLenRg (g : BW.Env → Store → Res (Int × Int)) : fLenRg g ρ S = (g ρ S).bind fun p S1 => if smallRg p = true then .ok (.int ((p.2 - p.1).toNat : Nat)) S1 else .bad := rfl
@[simp] theorem e_fInRg (neg : Bool) (f : BW.Env → Store → Res D) (g : BW.Env → Store → Res (Int × Int)) : fInRg neg f g ρ S = (f ρ S).bind fun d S1 => (g ρ S1).bind fun p S2 => match d with | .int i => .ok (.bl (xor neg (decide (p.1 ≤ i ∧ i < p.2)))) S2 | _ => .bad := rfl
end
end BW
namespace BW
open PySem PySem.Spec PyProof.Rows L2
section
variable {X : Cx} {cl : Str → Addr} {W : WX} {e : Pt} {pos : Pos}
def gSum : List D → Store → Option D
  | [.lst l], _ => (ints? l).map fun ns => .int ns.sum
  | _, _ => none
theorem c_sum (hc : X.calm = true) : CallR X (.builtin "sum") (rN X.K cl gSum) := by
  refine ofN (cr_sum hc) fun xs H Q w S ds z k r hg q => ?_
  unfold gSum at hg
  split at hg
  · rename_i l
    cases hb : ints? l with
    | none => rw [hb] at hg; cases hg
    | some ns =>
      rw [hb] at hg; cases hg
      obtain ⟨v, rfl, rv⟩ := ra1 r
      obtain ⟨a, vs, rfl, ha, ra⟩ := rv.lst_inv
      have e := ints_ra ra hb
      subst e
      exact ⟨a, ns, rfl, k.sqL ha, q w _ H (Ext.refl _ _) k (.int _)⟩
  · cases hg
theorem Ok.dpAll {K : PySem.W.Frag} {w : Wd} {S : Store} {H : Hp} (k : Ok K cl w S H) {n : Nat} : ∀ {l : List D} {vs : List V}, RA K w vs l → l.all (okD n) = true → DpAll K H vs (toPys l)
  | [], _, .nil, _ => .nil
  | d :: l, _, .cons r t, h => by
    simp only [List.all_cons, Bool.and_eq_true] at h
    exact .cons (k.dp n r h.1) (Ok.dpAll k t h.2)
theorem Ok.dpL {K : PySem.W.Frag} {w : Wd} {S : Store} {H : Hp} (k : Ok K cl w S H) {a : Addr} {vs : List V} {l : List D} (ha : H a = some (.lst vs)) (ra : RA K w vs l) (h : okD 12 (.lst l) = true) : Dp K H (.ref a) (toPy (.lst l)) := by
  have h : l.all (okD 11) = true := by simpa [okD] using h
  exact .lst (SqL.of ha) (k.dpAll ra h)
/-- x == b, x own -/
def fEqOwn (neg : Bool) (i : Nat) (fb : BW.Env → Store → Res D) : BW.Env → Store → Res D := fun ρ S => match ρ[i]? with
  | some (some (.own l)) => (fb ρ S).bind fun b S1 => if okD 12 (.lst l) && okD 12 b then .ok (.bl (xor neg (deq (.lst l) b))) S1 else .bad
  | _ => .bad
section
variable {i : Nat} {x : Str} {p : Pos} {b : Expr} {fb : BW.Env → Store → Res D}
theorem hr_ne {K : PySem.W.Frag} : ∀ x y H d e (Q : VK), Dp K H x d → Dp K H y e → SeqAt.shaped d = true → SeqAt.shaped e = true → Q (.bl (xor true (PyData.eqv d e))) H → rNeD K x y H Q := fun x y H d e Q h1 h2 h3 h4 q => ⟨d, e, h1, h2, h3, h4, by rw [Bool.true_xor] at q; exact q⟩
end
/-- a in x, x own -/
def fInOwn (neg : Bool) (fa : BW.Env → Store → Res D) (i : Nat) : BW.Env → Store → Res D := fun ρ S => (fa ρ S).bind fun a S1 => match ρ[i]? with
  | some (some (.own l)) => if okD 12 a && okD 12 (.lst l) then .ok (.bl (xor neg (l.any fun z => deq z a))) S1 else .bad
  | some (some (.ownd kvs)) => match keyD a with
    | some k => .ok (.bl (xor neg (valD kvs k).isSome)) S1
    | none => .bad
  | _ => .bad
theorem t_inOwn {K : PySem.W.Frag} {i : Nat} {neg : Bool} {fa : BW.Env → Store → Res D} {σ : L2.St} {H : Hp} {Q : VK} {r : R2}
    (hr : ∀ x y H d ds (Q : VK), Dp K H x d → Dp K H y (.list ds) → SeqAt.shaped d = true → SeqAt.shaped (.list ds) = true → Q (.bl (xor neg (ds.any fun z => PyData.eqv z d))) H → r x y H Q)
    (hd : ∀ y a o H (Q : VK), DGet H a y o → Q (.bl (xor neg o.isSome)) H → r y (.ref a) H Q)
    (h : tG K cl W (R K) (fInOwn neg fa i) σ H Q) : tOp r (tG K cl W (R K) fa) (tVar i) σ H Q := by
  obtain ⟨w, ρ, S, o, n, q⟩ := h
  refine tG.at o n (Post.bind q fun d S1 w1 v H1 e1 o1 r1 p1 => ?_)
  split at p1
  · rename_i l hl
    obtain ⟨u, hu, a, vs, rfl, ha, ra, hid⟩ := (n.mono e1).slot i _ hl
    refine ⟨_, hu, ?_⟩
    split at p1
    · rename_i hk
      rw [Bool.and_eq_true] at hk
      refine hr _ _ _ (toPy d) (toPys l) _ (o1.dp 12 r1 hk.1) (o1.dpL ha ra hk.2) (okD_shaped hk.1 (by decide)) (okD_shaped (d := .lst l) hk.2 (by decide)) ?_
      rw [any_toPys]
      exact p1.here o1 (.bl _)
    · exact p1.elim
  · rename_i kvs hl
    obtain ⟨u, hu, a, vs, rfl, ha, ra, hid⟩ := (n.mono e1).slot i _ hl
    refine ⟨_, hu, ?_⟩
    split at p1
    · rename_i k hk
      refine hd _ _ (valV vs k) _ _ (.inl ⟨vs, k, .inl ha, keyD_v r1 hk, rfl⟩) ?_
      rw [ra.isSome]
      exact p1.here o1 (.bl _)
    · exact p1.elim
  · exact p1.elim
def rInOwn (K : PySem.W.Frag) (neg : Bool) : R2 := fun x y H Q => (∃ d ds, Dp K H x d ∧ Dp K H y (.list ds) ∧ SeqAt.shaped d = true ∧ SeqAt.shaped (.list ds) = true ∧ Q (.bl (xor neg (ds.any fun z => PyData.eqv z d))) H) ∨ ∃ a o, y = .ref a ∧ DGet H a x o ∧ Q (.bl (xor neg o.isSome)) H
theorem op_inOwn (hu : X.A.units + 65 < cLine) : OpR X (compareOp .In) (rInOwn X.K false) := by
  refine OpR.imp ((op_inD hu).or (op_din (by omega))) fun x y H Q h => ?_
  rcases h with ⟨d, ds, h1, h2, h3, h4, q⟩ | ⟨a, o, h1, h2, q⟩
  · exact .inl ⟨d, ds, h1, h2, h3, h4, by rw [Bool.false_xor] at q; exact q⟩
  · exact .inr ⟨a, o, h1, h2, by rw [Bool.false_xor] at q; exact q⟩
theorem op_notinOwn (hu : X.A.units + 65 < cLine) : OpR X (compareOp .NotIn) (rInOwn X.K true) := by
  refine OpR.imp ((op_notInD hu).or (op_dnotin (by omega))) fun x y H Q h => ?_
  rcases h with ⟨d, ds, h1, h2, h3, h4, q⟩ | ⟨a, o, h1, h2, q⟩
  · exact .inl ⟨d, ds, h1, h2, h3, h4, by rw [Bool.true_xor] at q; exact q⟩
  · exact .inr ⟨a, o, h1, h2, by rw [Bool.true_xor] at q; exact q⟩
section
variable {i : Nat} {x : Str} {p : Pos} {a : Expr} {fa : BW.Env → Store → Res D}
theorem t_inOwn' {K : PySem.W.Frag} {neg : Bool} {σ : L2.St} {H : Hp} {Q : VK} (h : tG K cl W (R K) (fInOwn neg fa i) σ H Q) : tOp (rInOwn K neg) (tG K cl W (R K) fa) (tVar i) σ H Q :=
  t_inOwn (fun x y H d ds Q h1 h2 h3 h4 q => .inl ⟨d, ds, h1, h2, h3, h4, q⟩) (fun y a o H Q h1 q => .inr ⟨a, o, rfl, h1, q⟩) h
theorem dt_inOwn (hu : X.A.units + 65 < cLine) (ha : DE X cl W a fa) (hv : PE X (.Name x p) (tVar i)) (hm : behindInMarks .In (.Name x p) = false) : DT X cl W (.Compare a [.In] [.Name x p] pos) (fB (fInOwn false fa i)) := PT.imp (pt_cmpR (op_inOwn hu) ha hv hm) fun _ _ _ h => t_inOwn' (t_test h)
theorem dt_notinOwn (hu : X.A.units + 65 < cLine) (ha : DE X cl W a fa) (hv : PE X (.Name x p) (tVar i)) (hm : behindInMarks .NotIn (.Name x p) = false) : DT X cl W (.Compare a [.NotIn] [.Name x p] pos) (fB (fInOwn true fa i)) := PT.imp (pt_cmpR (op_notinOwn hu) ha hv hm) fun _ _ _ h => t_inOwn' (t_test h)
end
/-- x[b], x an own dict -/
def fIxOwnD (i : Nat) (fb : BW.Env → Store → Res D) : BW.Env → Store → Res D := fun ρ S => match ρ[i]? with
  | some (some (.ownd l)) => (fb ρ S).bind fun b S1 => Res.of S1 ((keyD b).bind fun k => valD l k)
  | _ => .bad
theorem de_ixOwnD {i : Nat} {x : Str} {p : Pos} {b : Expr} {fb : BW.Env → Store → Res D} (hu : X.A.units + 1 < cLine) (hv : PE X (.Name x p) (tVar i)) (hb : DE X cl W b fb) (hs : PlainIx b := by intro _ _; rfl) : DE X cl W (.Subscript (.Name x p) b pos) (fIxOwnD i fb) := by
  refine PE.imp (pe_ix (ix_dict hu) hv hb hs) fun σ H Q ⟨w, ρ, S, o, n, q⟩ => ?_
  unfold fIxOwnD at q
  split at q
  · rename_i l hl
    obtain ⟨v, hv, a, vs, rfl, ha, ra, hid⟩ := n.slot i _ hl
    refine ⟨_, hv, tG.at o n (Post.bind q fun b S1 w1 y H1 e1 o1 r1 p1 => ?_)⟩
    cases hk : keyD b with
    | none => rw [hk] at p1; exact p1.elim
    | some k =>
      rw [hk] at p1
      have ra1 := ra.mono e1.le
      rcases ra1.val (k := k) with ⟨h1, _⟩ | ⟨z, d, h1, h2, h3⟩
      · simp only [Option.bind_some, h1] at p1; exact p1.elim
      · simp only [Option.bind_some, h1] at p1
        exact ⟨a, z, rfl, .inl ⟨vs, k, .inl (e1.keep a _ ha hid.nK), keyD_v r1 hk, h2.symm⟩, p1.here o1 h3⟩
  · exact q.elim
/-- {} as an own dict -/
def fDict0 : BW.Env → Store → Res (List (Key × D)) := fun _ S => .ok [] S
theorem dd_new0 : DDc X cl W (.Dict [] [] pos) fDict0 := by
  refine PE.imp pe_dnewK fun σ H Q ⟨w, ρ, S, o, n, p⟩ q hq => ?_
  exact p w q [] _ ((Ext.refl _ _).mut hq) (o.mut (o.hid hq)) hq upd_same (o.hid hq) .nil
/-- xs[a:b] as an own list -/
def fCutL (f : BW.Env → Store → Res D) (l h : BW.Env → Store → Res (Option Int)) : BW.Env → Store → Res (List D) := fun ρ S => (f ρ S).bind fun d S1 => (l ρ S1).bind fun lo S2 => (h ρ S2).bind fun hi S3 => match d with
  | .lst xs => .ok (cutD xs lo hi) S3
  | _ => .bad
end
section
variable (ρ : BW.Env) (S : Store)
@[simp] theorem e_fEqOwn (neg : Bool) (i : Nat) (fb : BW.Env → Store → Res D) : fEqOwn neg i fb ρ S = match ρ[i]? with | some (some (.own l)) => (fb ρ S).bind fun b S1 => if okD 12 (.lst l) && okD 12 b then .ok (.bl (xor neg (deq (.lst l) b))) S1 else .bad | _ => .bad := rfl
@[simp] theorem e_fInOwn (neg : Bool) (fa : BW.Env → Store → Res D) (i : Nat) : fInOwn neg fa i ρ S = (fa ρ S).bind fun a S1 => match ρ[i]? with
  | some (some (.own l)) => if okD 12 a && okD 12 (.lst l) then .ok (.bl (xor neg (l.any fun z => deq z a))) S1 else .bad
  | some (some (.ownd kvs)) => match keyD a with
    | some k => .ok (.bl (xor neg (valD kvs k).isSome)) S1
    | none => .bad
  | _ => .bad := rfl
@[simp] theorem e_fDict0 : fDict0 ρ S = .ok [] S := rfl
@[simp] theorem e_fCutL (f : BW.Env → Store → Res D) (l h : BW.Env → Store → Res (Option Int)) : fCutL f l h ρ S = (f ρ S).bind fun d S1 => (l ρ S1).bind fun lo S2 => (h ρ S2).bind fun hi S3 => match d with | .lst xs => .ok (cutD xs lo hi) S3 | _ => .bad := rfl
end
end BW
namespace BW
open PySem PySem.Spec PyProof.Rows L2
section
variable {X : Cx} {cl : Str → Addr} {W : WX}
def fPopL (fo : BW.Env → Store → Res D) (fa : BW.Env → Store → Res (List D)) : BW.Env → Store → Res D := fun ρ S => (fo ρ S).bind fun d S1 => match lstAt d S1 with
  | some _ => (fa ρ S1).bind fun ds S2 => match lstAt d S2, ds with
    | some (i, l), [.int j] => if 0 ≤ j ∧ j < 1000 then (match l[j.toNat]? with
      | some x => .ok x (S2.set i (.lst (l.eraseIdx j.toNat)))
      | none => .bad) else .bad
    | _, _ => .bad
  | none => .bad
theorem RA.erase {K : PySem.W.Frag} {w : Wd} : ∀ {vs : List V} {ds : List D} (k : Nat), RA K w vs ds → RA K w (vs.eraseIdx k) (ds.eraseIdx k)
  | _, _, _, .nil => by simp; exact .nil
  | _, _, 0, .cons r t => by simpa using t
  | _, _, k + 1, .cons r t => by
    rw [List.eraseIdx_cons_succ, List.eraseIdx_cons_succ]
    exact .cons r (RA.erase k t)
def fListRgC (g : BW.Env → Store → Res (Int × Int)) : BW.Env → Store → Res D := fun ρ S => (g ρ S).bind fun p S1 => if smallRg p = true then .ok (.ref S1.length) (S1 ++ [.lst (rngD p.1 (p.2 - p.1).toNat)]) else .bad
end
end BW
namespace BW
open PySem PySem.Spec PyProof.Rows L2
section
variable {X : Cx} {cl : Str → Addr} {W : WX}
def gRevT : D → Option D
  | .tup l => some (.tup l.reverse)
  | _ => none
def fRevT (f : BW.Env → Store → Res D) : BW.Env → Store → Res D := fun ρ S => (f ρ S).bind fun d S1 => Res.of S1 (gRevT d)
@[simp] theorem e_fRevT (ρ : BW.Env) (S : Store) (f : BW.Env → Store → Res D) : fRevT f ρ S = (f ρ S).bind fun d S1 => Res.of S1 (gRevT d) := rfl
end
section
variable (ρ : BW.Env) (S : Store)
@[simp] theorem e_fPopL (fo : BW.Env → Store → Res D) (fa : BW.Env → Store → Res (List D)) : fPopL fo fa ρ S = (fo ρ S).bind fun d S1 => match lstAt d S1 with
  | some _ => (fa ρ S1).bind fun ds S2 => match lstAt d S2, ds with
    | some (i, l), [.int j] => if 0 ≤ j ∧ j < 1000 then (match l[j.toNat]? with
      | some x => .ok x (S2.set i (.lst (l.eraseIdx j.toNat)))
      | none => .bad) else .bad
    | _, _ => .bad
  | none => .bad := rfl
@[simp] theorem e_fListRgC (g : BW.Env → Store → Res (Int × Int)) : fListRgC g ρ S = (g ρ S).bind fun p S1 => if smallRg p = true then .ok (.ref S1.length) (S1 ++ [.lst (rngD p.1 (p.2 - p.1).toNat)]) else .bad := rfl
end
end BW
namespace BW
open PySem PySem.Spec PyProof.Rows L2
def sTryB (gb : Stm) (i : Nat) (cs : List Str) (GS : Str → Stm) : Stm := fun ρ S => match gb ρ S with
  | .err c ρ' S' => if i < ρ'.length ∧ c ∈ cs then (match GS c (ρ'.set i none) S' with | .ret d S1 => .ret d S1 | _ => .bad) else .bad
  | o => o
section
variable {X : Cx} {cl : Str → Addr} {W : WX} {e : Pt}
theorem ds_tryB {i : Nat} {x n : Str} {c : Value} {cs : List Str} {body sb : List Stmt} {s0 : Stmt} {np pos' pos : Pos} {gb : Stm} {gs : Addr → Str → Stm} {GS : Str → Stm}
    (hb : ∀ (W : WX) (pn : List (Addr × Obj)) (xe : Value → Shared → Prop), Takes (X.tr pn xe) W → PassesOwn (model X.prog X.w) X.A X.env xe → DSs (X.tr pn xe) cl e W body gb)
    (hsu : ∀ (a : Addr) (oe : Obj) (k : Str) (pn : List (Addr × Obj)), k ∈ cs → Zc (.ref (cl k)) none oe → (∃ vs, oe.data = .fields vs) → DSs (X.suite a ((a, oe) :: pn)) cl e W0 (s0 :: sb) (gs a k))
    (hfe : ∀ (a : Addr) (k : Str) (ρ : BW.Env) (S : Store), i < ρ.length → k ∈ cs → ∀ d S1, GS k (ρ.set i none) S = .ret d S1 → gs a k (ρ.set i (some (.adr a))) S = .ret d S1)
    (hex : ∀ k ∈ cs, PySem.W.exmOne X.K (.ref (cl k)) c = some true)
    (hs : X.stack = X.env :: X.outer) (hf : X.env.frame = some X.env.locals) (hN : X.N.Nodup) (hi : X.N[i]? = some n) (hln : X.env.kindOf n = some .local) (hc : Names X x c) :
    DS X cl e W (.Try body [.ExceptHandler (some (.Name x np)) (some n) (s0 :: sb) pos'] [] [] pos) (sTryB gb i cs GS) := by
  refine PS.imp (ps_try_as (X := X) (Wout := W0) (tb := fun W' => tSt X.K cl e W' gb) (ts := fun a cls d Z σ H => ∃ k, k ∈ cs ∧ cls = .ref (cl k) ∧ d = none ∧ tSt X.K cl e W0 (gs a k) Z σ H) hs hf hN hi hln hc takes0 hb (fun a oe cls d pn hz hv => ?_)) fun Z σ H h => ?_
  · refine ⟨fun pins s σ H Z I ⟨k, hk, e1, e2, t⟩ => ?_⟩
    subst e1 e2
    exact (hsu a oe k pn hk hz hv).run pins s σ H Z I t
  · obtain ⟨w, ρ, S, fs, p⟩ := h
    refine ⟨w, ρ, S, fs, ?_⟩
    unfold sTryB at p
    cases hg : gb ρ S with
    | next ρ1 S1 => rw [hg] at p; exact p
    | ret d S1 => rw [hg] at p; exact p
    | brk ρ1 S1 => rw [hg] at p; exact p
    | cont ρ1 S1 => rw [hg] at p; exact p
    | bad => rw [hg] at p; exact p
    | err k ρ1 S1 =>
      rw [hg] at p
      dsimp only at p
      split at p
      · rename_i hh
        intro w1 σ1 H1 l1 f1
        refine ⟨true, hex k hh.2, fun _ a ha => ⟨k, hh.2, rfl, rfl, w1, ρ1.set i (some (.adr a)), S1, f1.setN rfl rfl, ?_⟩, fun z => nomatch z⟩
        cases hF : GS k (ρ1.set i none) S1 with
        | ret d S2 =>
          rw [hF] at p
          rw [hfe a k ρ1 S1 hh.1 hh.2 d S2 hF]
          exact fun w2 v H2 l2 e2 o2 r2 => p w2 v H2 (l1.trans l2) e2 o2 r2
        | next ρ2 S2 => rw [hF] at p; exact p.elim
        | brk ρ2 S2 => rw [hF] at p; exact p.elim
        | cont ρ2 S2 => rw [hF] at p; exact p.elim
        | err c' ρ2 S2 => rw [hF] at p; exact p.elim
        | bad => rw [hF] at p; exact p.elim
      · exact p.elim
end
end BW
namespace BW
open PySem PySem.Spec PyProof.Rows L2
theorem ofS_inj {a b : String} (h : Str.ofString a = Str.ofString b) : a = b := by
  rw [Str.ofString_eq_toList, Str.ofString_eq_toList] at h
  have h1 := congrArg (fun x : Str => x.cps.toList) h
  simp only [] at h1
  have inj : ∀ l m : List Char, l.map Char.toNat = m.map Char.toNat → l = m := by
    intro l
    induction l with
    | nil => intro m e; cases m with | nil => rfl | cons => cases e
    | cons x l ih =>
      intro m e
      cases m with
      | nil => cases e
      | cons y m =>
        simp only [List.map_cons, List.cons.injEq] at e
        rw [ih m e.2]
        congr 1
        exact Char.toNat_inj.mp e.1
  exact String.toList_inj.mp (inj _ _ h1)
@[simp] theorem ofS_eq (a b : String) : (Str.ofString a = Str.ofString b) ↔ a = b := ⟨ofS_inj, fun e => by rw [e]⟩
@[simp] theorem ofS_beq (a b : String) : (Str.ofString a == Str.ofString b) = (a == b) := by
  rw [Bool.eq_iff_iff, beq_iff_eq, beq_iff_eq]
  exact ofS_eq a b
@[simp] theorem ofS_ok (a : String) : PyData.strOk (Str.ofString a) = true := by
  rw [Str.ofString_eq_toList]
  unfold PyData.strOk
  rw [Array.all_eq_true]
  intro i hi
  simp only [List.size_toArray, List.length_map] at hi
  simp only [List.getElem_toArray, List.getElem_map, decide_eq_true_eq]
  have := (a.toList[i]).valid
  unfold UInt32.isValidChar Nat.isValidChar at this
  show (a.toList[i]).val.toNat < 0x110000
  omega
@[simp] theorem deq_non_bl (y : Bool) : deq D.non (D.bl y) = false := rfl
@[simp] theorem deq_non_int (y : Int) : deq D.non (D.int y) = false := rfl
@[simp] theorem deq_non_str (y : Str) : deq D.non (D.str y) = false := rfl
@[simp] theorem deq_non_tup (y : List D) : deq D.non (D.tup y) = false := rfl
@[simp] theorem deq_non_lst (y : List D) : deq D.non (D.lst y) = false := rfl
@[simp] theorem deq_bl_non (x : Bool) : deq (D.bl x) D.non = false := rfl
@[simp] theorem deq_bl_str (x : Bool) (y : Str) : deq (D.bl x) (D.str y) = false := rfl
@[simp] theorem deq_bl_tup (x : Bool) (y : List D) : deq (D.bl x) (D.tup y) = false := rfl
@[simp] theorem deq_bl_lst (x : Bool) (y : List D) : deq (D.bl x) (D.lst y) = false := rfl
@[simp] theorem deq_int_non (x : Int) : deq (D.int x) D.non = false := rfl
@[simp] theorem deq_int_str (x : Int) (y : Str) : deq (D.int x) (D.str y) = false := rfl
@[simp] theorem deq_int_tup (x : Int) (y : List D) : deq (D.int x) (D.tup y) = false := rfl
@[simp] theorem deq_int_lst (x : Int) (y : List D) : deq (D.int x) (D.lst y) = false := rfl
@[simp] theorem deq_str_non (x : Str) : deq (D.str x) D.non = false := rfl
@[simp] theorem deq_str_bl (x : Str) (y : Bool) : deq (D.str x) (D.bl y) = false := rfl
@[simp] theorem deq_str_int (x : Str) (y : Int) : deq (D.str x) (D.int y) = false := rfl
@[simp] theorem deq_str_tup (x : Str) (y : List D) : deq (D.str x) (D.tup y) = false := rfl
@[simp] theorem deq_str_lst (x : Str) (y : List D) : deq (D.str x) (D.lst y) = false := rfl
@[simp] theorem deq_tup_non (x : List D) : deq (D.tup x) D.non = false := rfl
@[simp] theorem deq_tup_bl (x : List D) (y : Bool) : deq (D.tup x) (D.bl y) = false := rfl
@[simp] theorem deq_tup_int (x : List D) (y : Int) : deq (D.tup x) (D.int y) = false := rfl
@[simp] theorem deq_tup_str (x : List D) (y : Str) : deq (D.tup x) (D.str y) = false := rfl
@[simp] theorem deq_tup_lst (x : List D) (y : List D) : deq (D.tup x) (D.lst y) = false := rfl
@[simp] theorem deq_lst_non (x : List D) : deq (D.lst x) D.non = false := rfl
@[simp] theorem deq_lst_bl (x : List D) (y : Bool) : deq (D.lst x) (D.bl y) = false := rfl
@[simp] theorem deq_lst_int (x : List D) (y : Int) : deq (D.lst x) (D.int y) = false := rfl
@[simp] theorem deq_lst_str (x : List D) (y : Str) : deq (D.lst x) (D.str y) = false := rfl
@[simp] theorem deq_lst_tup (x : List D) (y : List D) : deq (D.lst x) (D.tup y) = false := rfl
@[simp] theorem deq_non_non : deq .non .non = true := rfl
@[simp] theorem deq_bl_bl (x y : Bool) : deq (.bl x) (.bl y) = (x == y) := by simp [deq, toPy, PyData.eqv]
@[simp] theorem deq_bl_int (x : Bool) (y : Int) : deq (.bl x) (.int y) = ((if x = true then 1 else 0) == y) := by simp [deq, toPy, PyData.eqv]
@[simp] theorem deq_int_bl (x : Int) (y : Bool) : deq (.int x) (.bl y) = (x == (if y = true then 1 else 0)) := by simp [deq, toPy, PyData.eqv]
@[simp] theorem deq_tup (x y : List D) : deq (.tup x) (.tup y) = deqs x y := by simp [deq, deqs, toPy, PyData.eqv]
@[simp] theorem deq_lst (x y : List D) : deq (.lst x) (.lst y) = deqs x y := by simp [deq, deqs, toPy, PyData.eqv]
@[simp] theorem deqs_nil : deqs [] [] = true := rfl
@[simp] theorem deqs_cons (a b : D) (x y : List D) : deqs (a :: x) (b :: y) = (deq a b && deqs x y) := by simp [deqs, deq, toPys, PyData.eqvAll]
@[simp] theorem deqs_nc (b : D) (y : List D) : deqs [] (b :: y) = false := rfl
@[simp] theorem deqs_cn (b : D) (y : List D) : deqs (b :: y) [] = false := rfl
theorem deqs_map {α : Type} [DecidableEq α] {e : α → D} (h : ∀ a b, deq (e a) (e b) = decide (a = b)) : ∀ l m : List α, deqs (l.map e) (m.map e) = decide (l = m)
  | [], [] => rfl
  | [], b :: m => by simp
  | a :: l, [] => by simp
  | a :: l, b :: m => by
    rw [List.map_cons, List.map_cons, deqs_cons, h, deqs_map h l m, ← Bool.decide_and]
    simp
theorem deq_intD (a b : Int) : deq (.int a) (.int b) = decide (a = b) := by
  rw [deq_int, Bool.eq_iff_iff, beq_iff_eq, decide_eq_true_eq]
@[simp] theorem deqs_ints (l m : List Int) : deqs (l.map D.int) (m.map D.int) = decide (l = m) := deqs_map deq_intD l m
section
variable {α : Type} {e : α → D}
theorem ok_all {n : Nat} (h : ∀ x, okD n (e x) = true) (xs : List α) : (xs.map e).all (okD n) = true := by simp [h]
end
@[simp] theorem ok_int (n : Nat) (i : Int) : okD n (.int i) = true := by cases n <;> rfl
@[simp] theorem ok_bl (n : Nat) (b : Bool) : okD n (.bl b) = true := by cases n <;> rfl
@[simp] theorem ok_non (n : Nat) : okD n .non = true := by cases n <;> rfl
@[simp] theorem ok_strs (n : Nat) (x : Str) : okD n (.str x) = PyData.strOk x := by cases n <;> rfl
@[simp] theorem ok_tupC (n : Nat) (l : List D) : okD (n + 1) (.tup l) = l.all (okD n) := rfl
@[simp] theorem ok_lstC (n : Nat) (l : List D) : okD (n + 1) (.lst l) = l.all (okD n) := rfl
@[simp] theorem ok_pD (n : Nat) (p : Int × Int) : okD (n + 1) (pD p) = true := by simp [pD]
@[simp] theorem ok_scr (n : Nat) (ns : List Int) : okD (n + 1) (.scr ns) = true := rfl
theorem compT {α : Type} {e : α → D} {t : Tgt} {ft : BW.Env → Store → Res Bool} {fe : BW.Env → Store → Res D} {ρ : BW.Env} {S : Store} (p : α → Bool) (f : α → D) {xs : List α} (hl : xs.length ≤ 90000)
    (h : ∀ x ∈ xs, ∃ ρ1, t (e x) ρ = some ρ1 ∧ ft ρ1 S = .ok (p x) S ∧ (p x = true → fe ρ1 S = .ok (f x) S)) : compL t ft fe ρ (xs.map e) S [] = .ok ((xs.filter p).map f) S := by
  have key : ∀ (xs : List α) (acc : List D), acc.length + xs.length ≤ 90000 → (∀ x ∈ xs, ∃ ρ1, t (e x) ρ = some ρ1 ∧ ft ρ1 S = .ok (p x) S ∧ (p x = true → fe ρ1 S = .ok (f x) S)) → compL t ft fe ρ (xs.map e) S acc = .ok (acc ++ (xs.filter p).map f) S := by
    intro xs
    induction xs with
    | nil => intro acc _ _; simp [compL]
    | cons x xs ih =>
      intro acc hl h
      obtain ⟨ρ1, h1, h2, h3⟩ := h x List.mem_cons_self
      rw [List.map_cons]
      simp only [compL, h1, h2, noErr_ok, bind_ok]
      have rest := fun y hy => h y (List.mem_cons_of_mem _ hy)
      simp only [List.length_cons] at hl
      by_cases hp : p x = true
      · have hlt : acc.length < LIM := Nat.lt_of_lt_of_le (show acc.length < 100000 by omega) (show 100000 ≤ LIM from Nat.le_refl _)
        rw [if_pos hp, h3 hp]
        simp only [noErr_ok, bind_ok]
        rw [if_pos hlt, ih (acc ++ [f x]) (by simp; omega) rest]
        simp [hp]
      · rw [if_neg hp, ih acc (by omega) rest]
        simp [hp]
  have := key xs [] (by simpa using hl) h
  simpa using this
theorem compM {α : Type} {e : α → D} {t : Tgt} {fe : BW.Env → Store → Res D} {ρ : BW.Env} {S : Store} (f : α → D) {xs : List α} (hl : xs.length ≤ 90000)
    (h : ∀ x ∈ xs, ∃ ρ1, t (e x) ρ = some ρ1 ∧ fe ρ1 S = .ok (f x) S) : compL t fYes fe ρ (xs.map e) S [] = .ok (xs.map f) S := by
  have := compT (t := t) (ft := fYes) (fe := fe) (ρ := ρ) (S := S) (e := e) (fun _ => true) f hl fun x hx => let ⟨ρ1, h1, h2⟩ := h x hx; ⟨ρ1, h1, rfl, fun _ => h2⟩
  rw [List.filter_eq_self.mpr (fun _ _ => rfl)] at this
  exact this
/-- .. with one state of the store, and an index -/
theorem forI {α : Type} {e : α → D} {t : Tgt} {g : Stm} {S : Store} (I : List α → BW.Env → Prop) : ∀ (xs done : List α) (ρ : BW.Env), I done ρ →
    (∀ d x r ρ, done ++ xs = d ++ x :: r → I d ρ → ∃ ρ1 ρ2, t (e x) ρ = some ρ1 ∧ g ρ1 S = .next ρ2 S ∧ I (d ++ [x]) ρ2) → ∃ ρ', forL t g (xs.map e) ρ S = .next ρ' S ∧ I (done ++ xs) ρ'
  | [], done, ρ, h, _ => ⟨ρ, rfl, by simpa using h⟩
  | x :: xs, done, ρ, h, hs => by
    obtain ⟨ρ1, ρ2, e1, e2, h2⟩ := hs done x xs ρ rfl h
    obtain ⟨ρ', e3, h3⟩ := forI I xs (done ++ [x]) ρ2 h2 fun d y r ρ hd => hs d y r ρ (by rw [← hd]; simp)
    exact ⟨ρ', by rw [List.map_cons]; simp only [forL, e1, e2, e3], by simpa using h3⟩
theorem rng_map (lo : Int) (n : Nat) : rngD lo n = ((List.range n).map fun i : Nat => lo + (i : Int)).map D.int := by
  unfold rngD; simp
theorem enum_map {α : Type} (e : α → D) (xs : List α) : enumD (xs.map e) = xs.zipIdx.map fun p => .tup [.int (p.2 : Nat), e p.1] := by
  unfold enumD
  rw [List.mapIdx_eq_zipIdx_map, List.zipIdx_map, List.map_map]
  rfl
theorem zip_map {α β : Type} (e : α → D) (f : β → D) (xs : List α) (ys : List β) : zipD (xs.map e) (ys.map f) = (xs.zip ys).map fun p => .tup [e p.1, f p.2] := by
  unfold zipD
  rw [List.zipWith_map, List.zip, List.map_zipWith]
theorem rng1 {j : Int} (h1 : -(2 ^ 62) ≤ j) (h2 : j < 2 ^ 62) : kRng1 [.int j] = some (rngD 0 j.toNat) := by
  show (if _ then _ else _) = _
  rw [if_pos ⟨h1, h2⟩]
theorem rng2 {i j : Int} (h1 : -(2 ^ 62) ≤ i) (h2 : i < 2 ^ 62) (h3 : -(2 ^ 62) ≤ j) (h4 : j < 2 ^ 62) : kRng2 [.int i, .int j] = some (rngD i (j - i).toNat) := by
  show (if _ then _ else _) = _
  rw [if_pos ⟨h1, h2, h3, h4⟩]
theorem ints_map : ∀ ns : List Int, ints? (ns.map D.int) = some ns
  | [] => rfl
  | n :: ns => by simp [ints?, ints_map ns]
theorem ipairs_map : ∀ ps : List (Int × Int), ipairs? (ps.map pD) = some ps
  | [] => rfl
  | n :: ns => by simp [ipairs?, pD, ipairs_map ns]
theorem cut_from (l : List D) (n : Nat) : cutD l (some (n : Int)) none = l.drop n := by
  unfold cutD
  rw [HT.sIx_nat, HT.sIx_none]
  by_cases h : n ≤ l.length
  · rw [Nat.min_eq_left h, List.take_of_length_le (by simp)]
  · rw [Nat.min_eq_right (by omega), List.drop_of_length_le (Nat.le_refl _), List.drop_of_length_le (by omega)]
    simp
theorem cut_to (l : List D) (n : Nat) : cutD l none (some (n : Int)) = l.take n := by
  unfold cutD
  rw [HT.sIx_nat, HT.sIx_none]
  by_cases h : n ≤ l.length
  · rw [Nat.min_eq_left h]; simp
  · rw [Nat.min_eq_right (by omega)]
    simp
    rw [List.take_of_length_le (by omega)]
theorem cut_from1 (l : List D) : cutD l (some 1) none = l.drop 1 := cut_from l 1
theorem cut_to2 (l : List D) : cutD l none (some 2) = l.take 2 := cut_to l 2
theorem cut_toI (l : List D) {i : Int} (h : 0 ≤ i) : cutD l none (some i) = l.take i.toNat := by
  have := cut_to l i.toNat
  rwa [Int.toNat_of_nonneg h] at this
theorem cut_fromI (l : List D) {i : Int} (h : 0 ≤ i) : cutD l (some i) none = l.drop i.toNat := by
  have := cut_from l i.toNat
  rwa [Int.toNat_of_nonneg h] at this
theorem mOf_ret {n : Nat} {g : Stm} {ds : List D} {S S' : Store} {d : D} (h : g (startE n ds) S = .ret d S') : mOf n g ds S = .ok d S' := by unfold mOf; rw [h]
theorem seq_next {g h : Stm} {ρ ρ1 : BW.Env} {S S1 : Store} (e : g ρ S = .next ρ1 S1) : sSeq g h ρ S = h ρ1 S1 := by unfold sSeq; rw [e]
end BW
namespace BW
open PySem PySem.Spec PyProof.Rows L2
def isaX (c d : Str) : Bool := c == d
theorem ret_of {r : Res D} {ρ ρ' : BW.Env} {d : D} {S1 : Store} (h : Out.of r ρ (fun d S1 => .ret d S1) = .ret d S1) : Out.of r ρ' (fun d S1 => .ret d S1) = .ret d S1 := by
  cases r with
  | ok a S => exact h
  | err c S => cases h
  | bad => cases h
end BW
namespace BW
open PySem PySem.Spec PyProof.Rows L2
section
variable {X : Cx} {cl : Str → Addr} {W : WX} {e : Pt} {pos : Pos}
def tgLst (n : Nat) (u : Tgts) : Tgt := fun d ρ => match d with
  | .lst l => if l.length = n then u l ρ else none
  | _ => none
theorem dg_lst {es : List Expr} {k n : Nat} {u : Tgts} (hc : X.calm = true) (h : PGs X es (gTs X.K cl e u)) (hn : (assignEach es X.env).length = n := by rfl) (hst : (assignEach es X.env).findIdx? (·.1) = none := by rfl) :
    PG X (.Tuple es k pos) (gT false X.K cl e (tgLst n u)) := PG.imp (pg_lst hc h hn hst) fun v σ H Q ⟨w, ρ, S, d, ρ', f, r, ht, q⟩ => by
  cases d <;> try (simp only [tgLst] at ht; cases ht)
  rename_i l
  simp only [tgLst] at ht
  split at ht
  · rename_i hl
    have r : R X.K w v (.lst l) := r
    obtain ⟨a, vs, rfl, ha, ra⟩ := r.lst_inv
    exact ⟨a, vs, rfl, f.ok.sqL ha, by rw [ra.length]; exact hl, w, ρ, S, l, ρ', f, ra, ht, q⟩
  · cases ht
end
end BW
namespace BW
open PySem PySem.Spec PyProof.Rows L2
section
variable {K : PySem.W.Frag} {h : Heap} {mg : Str → Option Value}
theorem gloB_ok (X : K.In h) (G : h.Ns mainGlobals mg) {x : Str} (c : gloB K x = true) : mg x = some (.ref (clOf K x)) := PySem.W.mg_of X G (He.eqO_ok c)
theorem freeB_ok (X : K.In h) (G : h.Ns mainGlobals mg) {x : Str} (c : freeB K x = true) : mg x = none := PySem.W.mg_none_of X G (He.eqO_ok c)
theorem xB_ok (X : K.In h) (G : h.Ns mainGlobals mg) {x : Str} (c : xB K x = true) : XcOk K mg (clOf K) x := by
  obtain ⟨c1, c⟩ := He.ba c
  obtain ⟨c2, c⟩ := He.ba c
  obtain ⟨c3, c⟩ := He.ba c
  obtain ⟨c4, c5⟩ := He.ba c
  exact ⟨gloB_ok X G c1, c2, c3, of_decide_eq_true c4, of_decide_eq_true c5⟩
theorem ecB_ok {x : Str} (c : ecB K x = true) : ExcC K (clOf K x) := by
  obtain ⟨c1, c⟩ := He.ba c
  obtain ⟨c2, c⟩ := He.ba c
  obtain ⟨c3, c⟩ := He.ba c
  obtain ⟨c4, c⟩ := He.ba c
  obtain ⟨c5, c⟩ := He.ba c
  obtain ⟨c6, c⟩ := He.ba c
  obtain ⟨c7, c8⟩ := He.ba c
  exact ⟨He.eqO_ok c1, He.eqO_ok c2, of_decide_eq_true c3, c4, He.eqO_ok c5, He.eqO_ok c6, of_decide_eq_true c7, of_decide_eq_true c8⟩
structure Excs (K : PySem.W.Frag) (mg : Str → Option Value) (all xs ys : List Str) : Prop where
  x : ∀ x ∈ all, XcOk K mg (clOf K) x
  ec : ∀ c ∈ xs, ExcC K (clOf K c)
  isa : ∀ c ∈ xs, ∀ d ∈ ys, PySem.W.kitOne K (.ref (clOf K c)) (.ref (clOf K d)) = some (isaX c d)
  isv : ∀ c ∈ xs, PySem.W.kitOne K (.ref (clOf K c)) (.type "ValueError") = some true
  exm : ∀ c ∈ xs, PySem.W.exmOne K (.ref (clOf K c)) (.ref (clOf K "BoltError")) = some true
  noVE : mg "ValueError" = none
theorem excsB_ok (X : K.In h) (G : h.Ns mainGlobals mg) {all xs ys : List Str} (c : excsB K all xs ys = true) : Excs K mg all xs ys := by
  obtain ⟨c1, c⟩ := He.ba c
  obtain ⟨c2, c⟩ := He.ba c
  obtain ⟨c3, c⟩ := He.ba c
  obtain ⟨c4, c⟩ := He.ba c
  obtain ⟨c5, c6⟩ := He.ba c
  exact ⟨fun x hx => xB_ok X G (List.all_eq_true.mp c1 x hx), fun x hx => ecB_ok (List.all_eq_true.mp c2 x hx), fun x hx y hy => of_decide_eq_true (List.all_eq_true.mp (List.all_eq_true.mp c3 x hx) y hy), fun x hx => of_decide_eq_true (List.all_eq_true.mp c4 x hx), fun x hx => of_decide_eq_true (List.all_eq_true.mp c5 x hx), freeB_ok X G c6⟩
structure ClsF (K : PySem.W.Frag) (mg : Str → Option Value) (c : Str) (fs : List Str) : Prop where
  ok : ClsOk K (clOf K) c fs
  g : mg c = some (.ref (clOf K c))
  mks : PySem.W.makesIn K (clOf K c) = true
  kp : PySem.W.keepIn K (.ref (clOf K c)) = true
theorem clsB_ok (X : K.In h) (G : h.Ns mainGlobals mg) {x : Str} {fs : List Str} (c : clsB K x fs = true) : ClsF K mg x fs := by
  obtain ⟨c1, c⟩ := He.ba c
  obtain ⟨c2, c⟩ := He.ba c
  obtain ⟨c3, c⟩ := He.ba c
  obtain ⟨c4, c⟩ := He.ba c
  obtain ⟨c5, c⟩ := He.ba c
  obtain ⟨c6, c⟩ := He.ba c
  obtain ⟨c7, c8⟩ := He.ba c
  exact ⟨⟨⟨c2, c3, c4, He.eqO_ok c5⟩, fun f hf => He.eqO_ok (List.all_eq_true.mp c8 f hf)⟩, gloB_ok X G c1, c6, c7⟩
theorem intB_ok (X : K.In h) (G : h.Ns mainGlobals mg) {x : Str} {i : Int} (c : intB K x i = true) : ∃ t, mg x = some (.int i t) := He.int_ok (x := x) X G c
theorem strB_ok (X : K.In h) (G : h.Ns mainGlobals mg) {x z : Str} (c : strB K x z = true) : ∃ t, mg x = some (.str z t) := He.str_ok (x := x) X G c
theorem tupB_ok (X : K.In h) (G : h.Ns mainGlobals mg) {x : Str} {vs : List V} {ds : List D} (c : tupB K x vs = true) (ra : ∀ w, RA K w vs ds) : ∃ a, mg x = some (.ref a) ∧ ∀ w, R K w (.ref a) (.tup ds) := by
  obtain ⟨c1, c2⟩ := He.ba c
  cases e : K.lookup (He.ga K x) with
  | none => rw [e] at c2; cases c2
  | some o =>
    obtain ⟨oc, od, dt, osl⟩ := o
    rw [e] at c2
    cases dt with
    | seq its n =>
      obtain ⟨d1, d⟩ := He.ba c2
      obtain ⟨d2, d⟩ := He.ba d
      obtain ⟨d3, d4⟩ := He.ba d
      have q1 : oc = .type "tuple" := of_decide_eq_true d1
      have q2 : od = none := of_decide_eq_true d2
      subst q1 q2
      exact ⟨_, gloB_ok X G c1, kTup (its := its.toList) (n := n) (sl := osl) (show K.lookup (He.ga K x) = _ by rw [e]) (of_decide_eq_true d3) (He.relAll_ok d4) ra⟩
    | _ => cases c2
theorem btB_ok (X : K.In h) (G : h.Ns mainGlobals mg) (c : (["len", "isinstance", "int", "bool", "str", "tuple", "list", "set", "dict", "all", "zip", "enumerate", "range", "sorted", "min", "max", "sum"] : List Str).all (freeB K) = true) : Bt mg := by
  have f : ∀ x ∈ (["len", "isinstance", "int", "bool", "str", "tuple", "list", "set", "dict", "all", "zip", "enumerate", "range", "sorted", "min", "max", "sum"] : List Str), mg x = none := fun x hx => freeB_ok X G (List.all_eq_true.mp c x hx)
  exact ⟨f _ (by decide), f _ (by decide), f _ (by decide), f _ (by decide), f _ (by decide), f _ (by decide), f _ (by decide), f _ (by decide), f _ (by decide), f _ (by decide), f _ (by decide), f _ (by decide), f _ (by decide), f _ (by decide), f _ (by decide), f _ (by decide), f _ (by decide)⟩
end
section
variable {fa : PySem.W.Frag → Bool} {fn : List He.FnD} {K : PySem.W.Frag} {h : Heap} {mg : Str → Option Value}
theorem SaysB.fact (c : SaysB fa fn K) : fa K = true := (He.ba (show (fa K && fn.all fun d => fnB K d && (He.Fa.code d.at_ d.qual).ok K) = true from congrArg (fun z : He.Al => z.1) c)).1
theorem SaysB.fnB (c : SaysB fa fn K) (i : Nat) {d : He.FnD} (h : fn[i]? = some d) : fnB K d = true ∧ (He.Fa.code d.at_ d.qual).ok K = true :=
  He.ba (List.all_eq_true.mp (He.ba (show (fa K && fn.all fun d => BW.fnB K d && (He.Fa.code d.at_ d.qual).ok K) = true from congrArg (fun z : He.Al => z.1) c)).2 d (List.mem_of_getElem? h))
theorem SaysB.fun_ (c : SaysB fa fn K) (i : Nat) {at_ : Str × Option Str} {x q : Str} {st : Stmt} (h : fn[i]? = some (dFn at_ x q st)) : ∃ fd, Fun K x q st (He.fAd K at_) fd := by
  obtain ⟨c1, c2⟩ := c.fnB i h
  have e : fn.map (fun d => He.fnObs K d.at_) = fn.map He.FnD.val := congrArg (fun z : He.Al => z.2) c
  have e2 : (fn.map fun d => He.fnObs K d.at_)[i]? = (fn.map He.FnD.val)[i]? := by rw [e]
  rw [List.getElem?_map, List.getElem?_map, h] at e2
  obtain ⟨oc, od, osl, kV, doc, pm, an, cdv, ct, l, cc⟩ := He.fn_ok (Option.some.inj e2) c2
  exact ⟨_, fun_mk (st := st) l cc (He.ba c1).1⟩
theorem SaysB.glo (c : SaysB fa fn K) (X : K.In h) (G : h.Ns mainGlobals mg) (i : Nat) {x y q : Str} {st : Stmt} (hi : fn[i]? = some (dFn (x, none) y q st)) : mg x = some (.ref (He.fAd K (x, none))) := gloB_ok X G (He.ba (c.fnB i hi).1).2
theorem SaysB.meth (c : SaysB fa fn K) (i : Nat) {k m y q : Str} {st : Stmt} (hi : fn[i]? = some (dFn (k, some m) y q st)) : Meth K (clOf K k) m (He.fAd K (k, some m)) := by
  obtain ⟨c1, c2⟩ := He.ba (c.fnB i hi).1
  obtain ⟨c3, c4⟩ := He.ba c2
  exact ⟨He.eqO_ok c3, c4, c1⟩
theorem SaysB.init (c : SaysB fa fn K) (i : Nat) {k y q : Str} {st : Stmt} {fs : List Str} (hi : fn[i]? = some (dFn (k, some "__init__") y q st)) (C : ClsF K mg k fs) : Mk K (clOf K k) (He.fAd K (k, some "__init__")) := by
  obtain ⟨c1, c2⟩ := He.ba (c.fnB i hi).1
  obtain ⟨c3, c4⟩ := He.ba c2
  exact ⟨C.mks, He.eqO_ok c3, c4, C.kp⟩
end
theorem fun_bindsA {K : PySem.W.Frag} {x qual : Str} {st : Stmt} {f : Addr} {fd : FuncData} {ps : List Str} (F : Fun K x qual st f fd)
    (h : ∀ (kV doc pm : Value) (an : Option Addr) (cdv ct : Value) (us : List Value), us.length = ps.length → bindArgs (PySem.W.fnOf x qual (defArgs st) (defBody st) (defScope st) .none kV doc pm an cdv ct) ⟨us, []⟩ = pure (ps.zip us)) (s : Shared) (us : List Value) (hl : us.length = ps.length) : BindsTo s fd ⟨us, []⟩ (ps.zip us) := by
  obtain ⟨oc, od, kV, doc, pm, an, cdv, ct, osl, rfl, lk, hcd⟩ := F.ex
  exact .of_eq (h kV doc pm an cdv ct us hl)
theorem walk_lawE {l : PySem.W.OpenLaw} {k : Nat} {m : List D → Store → Res D} {q : Program} {loose : List Str} {XP : (Str → Option Value) → Heap → Prop} {YP : World → Heap → Prop} {d : DefRec} (hlaw : LawOk m) (hn : l.most = some 63) (hdf : d.params.defaults = []) (hr : Room k callerA)
    (F : ∀ (w : World) (mg : Str → Option Value) (fa : Addr) (h : Heap), YP w h → h.Ns mainGlobals mg → mg d.name = some (.ref fa) →
      ∃ (K : PySem.W.Frag) (fd : FuncData), K.In h ∧ (∀ (s : Shared) (u : Value), BindsTo s fd ⟨[u], []⟩ [("script", u)]) ∧ ∀ base : Heap, K.In base → base.Ns mainGlobals mg → FnOk l.prog w K mg base (L2.CX l.prog w) k fa fd ["script"] (spM K (clOf K) 1 m)) :
    PySem.W.WalkO q loose XP YP l.row.toRowW d [] (fun f vs => PySem.call f vs) := by
  refine Att.attach_call hn hdf fun w s₀ s₁ mg mb fa o pm cd doc a vs ns G Y ho hd hcd hmg hobj hints hlen hg => ?_
  obtain ⟨K, fd, KX, hb, hF⟩ := F w mg fa _ Y G.T.g hmg
  exact law_call KX G.T.g G.T.b G.T.builtins G.T.nolimit hg hobj hints (Nat.le_trans hlen (by decide)) hr hF hb (fun H hO hS => law_sp hlaw hlen hS) fun H e s' z => law_cx z
end BW
namespace BW
open PySem PySem.Spec PyProof.Rows L2
section
variable {X : Cx} {cl : Str → Addr} {W : WX} {pos lpos : Pos}
def fEqDis (neg : Bool) (fa fb : BW.Env → Store → Res D) (i : Nat) : BW.Env → Store → Res D := fun ρ S => match ρ[i]? with
  | some (some (.own l)) => (fa ρ S).bind fun a S1 => (fb ρ S1).bind fun b S2 => if okD 12 a && okD 12 (.lst [b, .lst l]) then .ok (.bl (xor neg (deq a (.lst [b, .lst l])))) S2 else .bad
  | _ => .bad
theorem t_eqDis {K : PySem.W.Frag} {i : Nat} {neg : Bool} {fa fb : BW.Env → Store → Res D} {σ : L2.St} {H : Hp} {Q : VK} {r : R2} (hr : ∀ x y H d e (Q : VK), Dp K H x d → Dp K H y e → SeqAt.shaped d = true → SeqAt.shaped e = true → Q (.bl (xor neg (PyData.eqv d e))) H → r x y H Q)
    (h : tG K cl W (R K) (fEqDis neg fa fb i) σ H Q) : tOp r (tG K cl W (R K) fa) (tLst (tCons (tG K cl W (R K) fb) (tCons (tVar i) tNil))) σ H Q := by
  obtain ⟨w, ρ, S, o, n, q⟩ := h
  unfold fEqDis at q
  split at q
  · rename_i l hl
    refine tG.at o n (Post.bind q fun a S1 w1 x H1 e1 o1 r1 p1 => ?_)
    refine tG.at o1 (n.mono e1) (Post.bind p1 fun b S2 w2 y H2 e2 o2 r2 p2 => ?_)
    obtain ⟨v, hv, a', vs, rfl, ha, ra, hid⟩ := ((n.mono e1).mono e2).slot i _ hl
    refine ⟨_, hv, (show (2 : Nat) ≤ sizeLine by decide), fun p hp => ?_⟩
    split at p2
    · rename_i hk
      rw [Bool.and_eq_true] at hk
      have hpa : a' ≠ p := fun z => by rw [z, hp] at ha; cases ha
      obtain ⟨e3, o3⟩ := o2.laid (o := .lst [y, .ref a']) hp
      have k2 : okD 11 b = true ∧ l.all (okD 10) = true := by simpa [okD] using hk.2
      have D2 : Dp K (upd H2 p (.lst [y, .ref a'])) (.ref p) (toPy (.lst [b, .lst l])) :=
        .lst (SqL.of upd_same) (.cons (o3.dp 11 (r2.mono e3.le) k2.1) (.cons (.lst (SqL.of (by rw [upd_ne hpa]; exact ha)) (o3.dpAll (ra.mono e3.le) k2.2)) .nil))
      exact hr _ _ _ _ _ _ (o3.dp 12 (r1.mono (e2.le.trans e3.le)) hk.1) D2 (okD_shaped hk.1 (by decide)) (okD_shaped (d := .lst [b, .lst l]) hk.2 (by decide)) (p2.okT e3 o3 (.bl _))
    · exact p2.elim
  · exact q.elim
variable {a : Expr} {es : List Expr} {i : Nat} {fa fb : BW.Env → Store → Res D}
theorem dt_neDis (hu : X.A.units + 64 < cLine) (ha : DE X cl W a fa) (hl : PA X es (tCons (tG X.K cl W (R X.K) fb) (tCons (tVar i) tNil))) (hm : behindInMarks .NotEq (.List es lpos) = false) : DT X cl W (.Compare a [.NotEq] [.List es lpos] pos) (fB (fEqDis true fa fb i)) := PT.imp (pt_cmpR (op_neD hu) ha (pe_lst hl) hm) fun _ _ _ h => t_eqDis hr_ne (t_test h)
end
theorem vstr_mem : ∀ {ns : List Str} {us : List Value}, Vals (ns.map V.str) us → ∀ y ∈ us, ∃ n t, y = .str n t
  | [], _, .nil, y, h => by cases h
  | n :: ns, _, .cons r h, y, hy => by
    obtain ⟨t, rfl⟩ := r
    rcases List.mem_cons.mp hy with z | z
    · exact ⟨n, t, z⟩
    · exact vstr_mem h y z
theorem vstr_get : ∀ {ns : List Str} {us : List Value}, Vals (ns.map V.str) us → ∀ (j : Nat) (k : Str), ns[j]? = some k → ∃ t, us[j]? = some (.str k t)
  | [], _, .nil, j, k, h => by simp at h
  | n :: ns, _, .cons r h, 0, k, e => by
    obtain ⟨t, rfl⟩ := r
    simp at e
    subst e
    exact ⟨t, rfl⟩
  | n :: ns, _, .cons r h, j + 1, k, e => by
    obtain ⟨t, ht⟩ := vstr_get h j k (by simpa using e)
    exact ⟨t, by simpa using ht⟩
theorem erase_mapS : ∀ (l : List Str) (j : Nat), (l.map V.str).eraseIdx j = (l.eraseIdx j).map V.str
  | [], j => by simp
  | a :: r, 0 => by simp
  | a :: r, j + 1 => by
    have ih := erase_mapS r j
    simp [ih]
def eqs (k : Str) (v : Value) : Bool := match v with
  | .str n _ => n == k
  | _ => false
def rRemS : V → List V → Hp → VK → Prop := fun x xs H Q => ∃ (l : Addr) (ns : List Str) (k : Str) (j : Nat), x = .ref l ∧ xs = [.str k] ∧ H l = some (.lst (ns.map V.str)) ∧ ns[j]? = some k ∧ (∀ m : Nat, m < j → ns[m]? ≠ some k) ∧ Q .non (upd H l (.lst ((ns.eraseIdx j).map V.str)))
section
variable {X : Cx} {cl : Str → Addr} {W : WX} {e : Pt} {pos : Pos}
theorem mt_removeS : MtM X "list.remove" rRemS := by
  intro pins s σ H x xs v us Q I rx rxs h
  obtain ⟨l, ns, k, j, rfl, rfl, hH, hj, hno, q⟩ := h
  cases rx
  obtain ⟨u, rfl, ru⟩ := rxs.one
  obtain ⟨t, rfl⟩ := ru
  obtain ⟨z, its, n, r, hl, e⟩ := I.lstM hH
  rw [List.length_map] at hl z
  have hjn : j < ns.length := (List.getElem?_eq_some_iff.mp hj).1
  have hjl : j < its.toArray.size := by rw [List.size_toArray]; omega
  refine call_meets PySem.F.slot_list_remove ⟨_, e, rfl⟩ PySem.F.entry_list_remove (PySem.F.args_list_remove_2 _ _)
    (MeetsSeq.list_remove l its.toArray n (.str k t) (eqs k) (fun y hy => ?_) j hjl ?_ ?_ (by rw [List.size_toArray]; omega)) ⟨e, ?_⟩
  · obtain ⟨n', t', rfl⟩ := vstr_mem r y (by simpa using hy)
    show MeetsSeq.EqGives (.str n' t') (.str k t) (n' == k)
    rw [← PySem.SeqAt.str_beq]
    exact SeqRoads2.EqGives.str n' k t' t
  · obtain ⟨tj, hjt⟩ := vstr_get r j k hj
    obtain ⟨h1, h2⟩ := List.getElem?_eq_some_iff.mp hjt
    have e1 : its.toArray[j] = .str k tj := by simpa using h2
    rw [e1]
    exact beq_self_eq_true k
  · intro m hm hmj
    have hmn : m < ns.length := by omega
    obtain ⟨tm, hmt⟩ := vstr_get r m _ (List.getElem?_eq_getElem hmn)
    obtain ⟨h1, h2⟩ := List.getElem?_eq_some_iff.mp hmt
    have e1 : its.toArray[m] = .str ns[m] tm := by simpa using h2
    rw [e1]
    refine beq_eq_false_iff_ne.mpr fun e2 => hno m hmj ?_
    rw [List.getElem?_eq_getElem hmn, e2]
  · have rr := r.eraseIdx j
    rw [erase_mapS] at rr
    refine ⟨.non, _, I.lset (its' := its.eraseIdx j) (t' := s.toks) hH e ?_ rr ?_, rfl, q⟩
    · show its.toArray.eraseIdxIfInBounds j = (its.eraseIdx j).toArray
      rw [List.eraseIdxIfInBounds_toArray]
    · have z2 : (ns.eraseIdx j).length ≤ ns.length := List.length_eraseIdx_le ..
      rw [List.length_map]
      omega
def strsD? : List D → Option (List Str)
  | [] => some []
  | .str x :: l => (strsD? l).map (x :: ·)
  | _ :: _ => none
theorem strs_ra {K : PySem.W.Frag} {w : Wd} : ∀ {l : List D} {vs : List V} {ns : List Str}, RA K w vs l → strsD? l = some ns → vs = ns.map V.str
  | [], _, _, .nil, e => by cases e; rfl
  | .str i :: l, _, ns, .cons r t, e => by
    simp only [strsD?, Option.map_eq_some_iff] at e
    obtain ⟨ms, e1, rfl⟩ := e
    cases r
    rw [strs_ra t e1]
    rfl
theorem ra_strs52 {K : PySem.W.Frag} {w : Wd} : ∀ ns : List Str, RA K w (ns.map V.str) (ns.map D.str)
  | [] => .nil
  | n :: ns => .cons (.str n) (ra_strs52 ns)
theorem strsD_map : ∀ ns : List Str, strsD? (ns.map .str) = some ns
  | [] => rfl
  | n :: ns => by rw [List.map_cons, strsD?, strsD_map ns]; rfl
theorem eraseS_at {ns : List Str} {k : Str} (h : k ∈ ns) : ∃ j, ns[j]? = some k ∧ (∀ m : Nat, m < j → ns[m]? ≠ some k) ∧ ns.eraseIdx j = ns.erase k := by
  induction ns with
  | nil => cases h
  | cons a ns ih =>
    by_cases e : a = k
    · subst e
      exact ⟨0, rfl, fun m hm => absurd hm (Nat.not_lt_zero _), by simp⟩
    · have h' : k ∈ ns := by
        rcases List.mem_cons.mp h with z | z
        · exact absurd z.symm e
        · exact z
      obtain ⟨j, h1, h2, h3⟩ := ih h'
      refine ⟨j + 1, by simpa using h1, fun m hm => ?_, ?_⟩
      · cases m with
        | zero => simpa using e
        | succ m => simpa using h2 m (by omega)
      · rw [List.eraseIdx_cons_succ, h3, List.erase_cons_tail (by simpa using e)]
def sRemoveS (i : Nat) (f : BW.Env → Store → Res (List D)) : Stm := fun ρ S => match ρ[i]? with
  | some (some (.own l)) => Out.of (f ρ S) ρ fun ds S1 => match ds, strsD? l with
    | [.str k], some ns => if k ∈ ns then .next (ρ.set i (some (.own ((ns.erase k).map .str)))) S1 else .bad
    | _, _ => .bad
  | _ => .bad
theorem ds_removeS {i : Nat} {x : Str} {p apos cpos : Pos} {ex : Expr} {f : BW.Env → Store → Res (List D)} (hv : PE X (.Name x p) (tVar i)) (h : DA X cl W [ex] f)
    (hbase : attributeBase (.Name x p) "remove" X.env (eval (.Name x p) X.env) = eval (.Name x p) X.env := by rfl)
    (hfew : ((backTo cpos (starEach [ex] X.env)).all (fun x => !x.1) && (backToKw cpos (keywordEach [] X.env)).all (fun x => x.1.isSome)
      && decide (([ex] : List Expr).length + ([] : List Keyword).length + (if ([] : List Keyword).isEmpty then 0 else 1) < 30)) = true := by rfl)
    (hline : (apos.endLine == cpos.line) = true := by rfl) (hs : starEach [ex] X.env = (false, eval ex X.env) :: starEach [] X.env := by rfl) (hplain : (backTo cpos (starEach [] X.env)).any (·.1) = false := by rfl)
    (hsw : swapsWith (.Call (.Attribute (.Name x p) "remove" apos) [ex] [] cpos) none pos.line X.env = pure false := by rfl) :
    DS X cl e W (.Expr (.Call (.Attribute (.Name x p) "remove" apos) [ex] [] cpos) pos) (sRemoveS i f) := by
  refine PS.imp (ps_expr (pe_bm PySem.F.plainAttrs_list PySem.F.slot_list_remove PySem.F.type_list_remove mt_removeS hv h hbase hfew hline hs hplain) hsw) fun Z σ H ⟨w, ρ, S, fs, q⟩ => ?_
  unfold sRemoveS at q
  split at q
  · rename_i l hl
    obtain ⟨v, hv, a, vs, rfl, ha, ra, hid⟩ := fs.env.slot i _ hl
    refine ⟨_, hv, .inl ⟨rfl, vs, SqL.of ha⟩, fs.tG (PostS.expr q fs fun ds S1 w1 us H1 e1 f1 r1 p1 => ?_)⟩
    have ha1 := e1.keep a _ ha hid.nK
    have hid1 := hid.mono e1 ha
    split at p1
    · rename_i k ns hi
      split at p1
      · rename_i hk
        obtain ⟨u, rfl, ru⟩ := ra1 r1
        cases ru
        have ev := strs_ra ra hi
        subst ev
        obtain ⟨j, h1, h2, h3⟩ := eraseS_at hk
        refine ⟨a, ns, k, j, rfl, rfl, ha1, h1, h2, ?_⟩
        rw [h3]
        exact p1 w1 σ _ (Le.refl _) (f1.mutOwn hl rfl hv hid1 rfl ⟨a, _, rfl, upd_same, ra_strs52 _, hid1⟩)
      · exact p1.elim
    · exact p1.elim
  · exact q.elim
end
end BW
namespace BW
open PySem PySem.Spec PyProof.Rows L2
def g_law_cell : Stm := (sSeq (sIf (fB (f2 (gEq false) (fV 0) (fLst fNil))) (sRet (f2 gMulX (fC (.int 7)) (fV 1))) sNil)
    (sRet (f2 gAdd (f2 gIx (fV 0) (f2 gMod (fV 1) (fN gLen (fCons (fV 0) fNil)))) (f2 gMulX (fC (.int 6553)) (f2 gFdiv (fV 1) (fN gLen (fCons (fV 0) fNil)))))))
def m_law_cell : List D → Store → Res D := mOf 2 g_law_cell
def g_law_drawn : Stm := (sSeq (sSet 3 (f2 gMod (f2 gAdd (f2 gMulX (f2 gMod (fM 2 m_law_cell (fCons (fV 0) (fCons (fV 1) fNil))) (fC (.int 2147483563))) (fC (.int 69069))) (f2 gMulX (fC (.int 104723)) (f2 gAdd (fV 1) (fC (.int 1))))) (fC (.int 2147483563))))
    (sSeq (sSet 3 (f2 gMod (f2 gAdd (f2 gMulX (fV 3) (fV 3)) (f2 gFdiv (fV 3) (fC (.int 3)))) (fC (.int 2147483399))))
    (sRet (f2 gMod (f2 gFdiv (f2 gMod (f2 gAdd (f2 gMulX (fV 3) (fV 3)) (f2 gFdiv (fV 3) (fC (.int 7)))) (fC (.int 2147483647))) (fC (.int 11))) (fV 2)))))
def m_law_drawn : List D → Store → Res D := mOf 4 g_law_drawn
def b_law_doors_1 : Stm := (sIf (fB (f2 gGt (fM 3 m_law_drawn (fCons (fV 0) (fCons (f2 gAdd (fV 1) (fV 4)) (fCons (fC (.int 6)) fNil)))) (fC (.int 0)))) (sAppend 3 (fCons (fTup (fCons (fM 3 m_law_drawn (fCons (fV 0) (fCons (f2 gAdd (f2 gAdd (fV 1) (fC (.int 6))) (fV 4)) (fCons (fV 4) fNil)))) (fCons (fV 4) fNil))) fNil)) sNil)
def b_law_doors_2 : Stm := (sSeq (sSet 6 (fM 3 m_law_drawn (fCons (fV 0) (fCons (f2 gAdd (f2 gAdd (fV 1) (fC (.int 12))) (f2 gMulX (fC (.int 2)) (fV 5))) (fCons (fV 2) fNil)))))
    (sSeq (sSet 4 (fM 3 m_law_drawn (fCons (fV 0) (fCons (f2 gAdd (f2 gAdd (fV 1) (fC (.int 13))) (f2 gMulX (fC (.int 2)) (fV 5))) (fCons (fV 2) fNil)))))
    (sIf (fB (f2 (gEq true) (fV 6) (fV 4))) (sAppend 3 (fCons (fTup (fCons (fN gMin (fCons (fV 6) (fCons (fV 4) fNil))) (fCons (fN gMax (fCons (fV 6) (fCons (fV 4) fNil))) fNil))) fNil)) sNil)))
def g_law_doors : Stm := (sSeq (sSetOwn 3 (fNew fNil))
    (sSeq (sFor (fI kRng2 (fCons (fC (.int 1)) (fCons (fV 2) fNil))) (tgName 4) b_law_doors_1)
    (sSeq (sFor (fI kRng1 (fCons (fM 3 m_law_drawn (fCons (fV 0) (fCons (fV 1) (fCons (fC (.int 5)) fNil)))) fNil)) (tgName 5) b_law_doors_2)
    (sFreeze 3 (sRet (fN gTuple (fCons (fN gSS (fCons (fV 3) fNil)) fNil)))))))
def m_law_doors : List D → Store → Res D := mOf 7 g_law_doors
def b_law_house_1 : Stm := (sSeq (sSet 10 (f2 gIx (fLst (fCons (fC (.str "soon")) (fCons (fC (.str "late")) (fCons (fC (.str "after")) (fCons (fC (.str "ever")) (fCons (fC (.str "late")) (fCons (fC (.str "soon")) fNil))))))) (fM 3 m_law_drawn (fCons (fV 0) (fCons (f2 gAdd (f2 gAdd (fV 1) (fC (.int 26))) (f2 gMulX (fC (.int 2)) (fV 8))) (fCons (fC (.int 6)) fNil))))))
    (sIf (fAnd (fB (f2 gGt (fM 3 m_law_drawn (fCons (fV 0) (fCons (f2 gAdd (f2 gAdd (fV 1) (fC (.int 27))) (f2 gMulX (fC (.int 2)) (fV 8))) (fCons (fC (.int 3)) fNil)))) (fC (.int 0)))) (fB (f2 gLt (fLenOwn 6) (fC (.int 12))))) (sAppend 6 (fCons (f2 gAdd (fV 9) (fTup (fCons (fV 10) fNil))) fNil)) sNil))
def b_law_house_2 : Stm := (sSeq (sSet 11 (f2 gAdd (f2 gAdd (fV 1) (fC (.int 57))) (f2 gMulX (fC (.int 13)) (fV 8))))
    (sAppend 7 (fCons (fN gTuple (fCons (fFrz (fComp (fI kRng1 (fCons (fN gLen (fCons (fV 6) fNil)) fNil)) (tgName 14) (fB (f2 gGt (fM 3 m_law_drawn (fCons (fV 0) (fCons (f2 gAdd (fV 11) (fV 14)) (fCons (fC (.int 4)) fNil)))) (fC (.int 0)))) (fV 14) [14])) fNil)) fNil)))
def g_law_house : Stm := (sSeq (sSet 2 (f2 gAdd (fC (.int 2)) (fM 3 m_law_drawn (fCons (fV 0) (fCons (fV 1) (fCons (fC (.int 5)) fNil))))))
    (sSeq (sSet 3 (fM 3 m_law_doors (fCons (fV 0) (fCons (f2 gAdd (fV 1) (fC (.int 1))) (fCons (fV 2) fNil)))))
    (sSeq (sSet 4 (f2 gAdd (fFrz (fComp (fI kRng1 (fCons (fN gLen (fCons (fV 3) fNil)) fNil)) (tgName 12) fYes (fTup (fCons (fC (.str "door")) (fCons (fV 12) fNil))) [12])) (fFrz (fComp (fI kRng2 (fCons (fC (.int 1)) (fCons (fV 2) fNil))) (tgName 13) fYes (fTup (fCons (fC (.str "room")) (fCons (fV 13) fNil))) [13]))))
    (sSeq (sSet 5 (fM 3 m_law_drawn (fCons (fV 0) (fCons (f2 gAdd (fV 1) (fC (.int 25))) (fCons (fN gLen (fCons (fV 4) fNil)) fNil)))))
    (sSeq (sSetOwn 6 (fNew fNil))
    (sSeq (sFor (fI kEnum (fCons (f2 gAdd (fCut (fV 4) (oSome (fV 5)) oNone) (fCut (fV 4) oNone (oSome (fV 5)))) fNil)) (tgTup 2 (tgCons (tgName 8) (tgCons (tgName 9) tgNil))) b_law_house_1)
    (sFreeze 6 (sSeq (sSetOwn 7 (fNew fNil))
    (sSeq (sFor (fI kRng1 (fCons (f2 gAdd (fC (.int 1)) (fM 3 m_law_drawn (fCons (fV 0) (fCons (f2 gAdd (fV 1) (fC (.int 56))) (fCons (fC (.int 3)) fNil))))) fNil)) (tgName 8) b_law_house_2)
    (sFreeze 7 (sRet (fTup (fCons (fV 2) (fCons (fV 3) (fCons (fN gTuple (fCons (fV 6) fNil)) (fCons (fN gTuple (fCons (fV 7) fNil)) fNil))))))))))))))))
def m_law_house : List D → Store → Res D := mOf 15 g_law_house
def g_is_number : Stm := (sRet (vAnd (fIsi isIntD (fV 0)) (vAnd (vNot (fIsi isBoolD (fV 0))) (fChain gLe gLe (fV 1) (fV 0) (fV 2)))))
def m_is_number : List D → Store → Res D := mOf 3 g_is_number
def g_is_eye : Stm := (sSeq (sIf (fOr (fNot (fB (fIsi isTupD (fV 0)))) (fOr (fB (f2 (gEq true) (fN gLen (fCons (fV 0) fNil)) (fC (.int 3)))) (fOr (fNot (fB (fIsi isStrD (f2 gIx (fV 0) (fC (.int 0)))))) (fB (f2 (gInX true) (f2 gIx (fV 0) (fC (.int 2))) (fC (.tup [(.str "soon"), (.str "late"), (.str "after"), (.str "ever")]))))))) (sRet (fC (.bl false))) sNil)
    (sSeq (sIf (fB (f2 (gEq false) (f2 gIx (fV 0) (fC (.int 0))) (fC (.str "door")))) (sRet (fM 3 m_is_number (fCons (f2 gIx (fV 0) (fC (.int 1))) (fCons (fC (.int 0)) (fCons (f2 gSub (fN gLen (fCons (fV 2) fNil)) (fC (.int 1))) fNil))))) sNil)
    (sRet (vAnd (f2 (gEq false) (f2 gIx (fV 0) (fC (.int 0))) (fC (.str "room"))) (fM 3 m_is_number (fCons (f2 gIx (fV 0) (fC (.int 1))) (fCons (fC (.int 1)) (fCons (f2 gSub (fV 1) (fC (.int 1))) fNil))))))))
def m_is_eye : List D → Store → Res D := mOf 3 g_is_eye
def g_are_eyes : Stm := (sSeq (sIf (fOr (fNot (fB (fIsi isTupD (fV 0)))) (fOr (fB (f2 gGt (fN gLen (fCons (fV 0) fNil)) (fC (.int 12)))) (fNot (fB (fN gAll (fCons (fFrz (fComp (fItems (fV 0)) (tgName 3) fYes (fM 3 m_is_eye (fCons (fV 3) (fCons (fV 1) (fCons (fV 2) fNil)))) [3])) fNil)))))) (sRet (fC (.bl false))) sNil)
    (sRet (f2 (gEq false) (fN gLenSet (fCons (fFrz (fComp (fItems (fV 0)) (tgName 3) fYes (fCut (fV 3) oNone (oSome (fC (.int 2)))) [3])) fNil)) (fN gLen (fCons (fV 0) fNil)))))
def m_are_eyes : List D → Store → Res D := mOf 4 g_are_eyes
def g_do_rise : Stm := (sRet (fN gAll (fCons (fFrz (fComp (fI kZip (fCons (fV 0) (fCons (fCut (fV 0) (oSome (fC (.int 1))) oNone) fNil))) (tgTup 2 (tgCons (tgName 1) (tgCons (tgName 2) tgNil))) fYes (f2 gLt (fV 1) (fV 2)) [1, 2])) fNil)))
def m_do_rise : List D → Store → Res D := mOf 3 g_do_rise
def b_are_doors_1 : Stm := (sSeq (sIf (fOr (fNot (fB (fIsi isTupD (fV 2)))) (fOr (fB (f2 (gEq true) (fN gLen (fCons (fV 2) fNil)) (fC (.int 2)))) (fNot (fB (fM 3 m_is_number (fCons (f2 gIx (fV 2) (fC (.int 0))) (fCons (fC (.int 0)) (fCons (f2 gSub (fV 1) (fC (.int 1))) fNil)))))))) (sRet (fC (.bl false))) sNil)
    (sIf (fNot (fB (fM 3 m_is_number (fCons (f2 gIx (fV 2) (fC (.int 1))) (fCons (f2 gAdd (f2 gIx (fV 2) (fC (.int 0))) (fC (.int 1))) (fCons (f2 gSub (fV 1) (fC (.int 1))) fNil)))))) (sRet (fC (.bl false))) sNil))
def g_are_doors : Stm := (sSeq (sIf (fOr (fNot (fB (fIsi isTupD (fV 0)))) (fB (f2 gGt (fN gLen (fCons (fV 0) fNil)) (fC (.int 10))))) (sRet (fC (.bl false))) sNil)
    (sSeq (sFor (fItems (fV 0)) (tgName 2) b_are_doors_1)
    (sRet (fM 1 m_do_rise (fCons (fV 0) fNil)))))
def m_are_doors : List D → Store → Res D := mOf 3 g_are_doors
def g_is_mode : Stm := (sRet (vAnd (fIsi isTupD (fV 0)) (vAnd (fN gAll (fCons (fFrz (fComp (fItems (fV 0)) (tgName 2) fYes (fM 3 m_is_number (fCons (fV 2) (fCons (fC (.int 0)) (fCons (f2 gSub (fV 1) (fC (.int 1))) fNil)))) [2])) fNil)) (fM 1 m_do_rise (fCons (fV 0) fNil)))))
def m_is_mode : List D → Store → Res D := mOf 3 g_is_mode
def g_is_house : Stm := (sSeq (sIf (fOr (fNot (fB (fIsi isTupD (fV 0)))) (fOr (fB (f2 (gEq true) (fN gLen (fCons (fV 0) fNil)) (fC (.int 4)))) (fNot (fB (fM 3 m_is_number (fCons (f2 gIx (fV 0) (fC (.int 0))) (fCons (fC (.int 2)) (fCons (fC (.int 6)) fNil)))))))) (sRet (fC (.bl false))) sNil)
    (sSeq (sAsg (tgTup 4 (tgCons (tgName 1) (tgCons (tgName 2) (tgCons (tgName 3) (tgCons (tgName 4) tgNil))))) (fV 0))
    (sSeq (sIf (fOr (fNot (fB (fM 2 m_are_doors (fCons (fV 2) (fCons (fV 1) fNil))))) (fNot (fB (fM 3 m_are_eyes (fCons (fV 3) (fCons (fV 1) (fCons (fV 2) fNil))))))) (sRet (fC (.bl false))) sNil)
    (sSeq (sIf (fOr (fNot (fB (fIsi isTupD (fV 4)))) (fNot (fB (fChain gLe gLe (fC (.int 1)) (fN gLen (fCons (fV 4) fNil)) (fC (.int 3)))))) (sRet (fC (.bl false))) sNil)
    (sRet (fN gAll (fCons (fFrz (fComp (fItems (fV 4)) (tgName 5) fYes (fM 2 m_is_mode (fCons (fV 5) (fCons (fN gLen (fCons (fV 3) fNil)) fNil))) [5])) fNil)))))))
def m_is_house : List D → Store → Res D := mOf 6 g_is_house
def g_need_house : Stm := (sIf (fNot (fB (fM 1 m_is_house (fCons (fV 0) fNil)))) (sRaise "NoHouse") sNil)
def m_need_house : List D → Store → Res D := mOf 1 g_need_house
def g_need_mode : Stm := (sIf (fNot (fB (fM 3 m_is_number (fCons (fV 1) (fCons (fC (.int 0)) (fCons (f2 gSub (fN gLen (fCons (f2 gIx (fV 0) (fC (.int 3))) fNil)) (fC (.int 1))) fNil)))))) (sRaise "NoMode") sNil)
def m_need_mode : List D → Store → Res D := mOf 2 g_need_mode
def g_evers : Stm := (sRet (fFrz (fComp (fI kEnum (fCons (f2 gIx (fV 0) (fC (.int 2))) fNil)) (tgTup 2 (tgCons (tgName 1) (tgCons (tgName 2) tgNil))) (fB (f2 (gEq false) (f2 gIx (fV 2) (fC (.int 2))) (fC (.str "ever")))) (fV 1) [1, 2])))
def m_evers : List D → Store → Res D := mOf 3 g_evers
def g_eye_at : Stm := (sSeq (sSet 3 (fFrz (fComp (fI kEnum (fCons (f2 gIx (fV 0) (fC (.int 2))) fNil)) (tgTup 2 (tgCons (tgName 4) (tgCons (tgName 5) tgNil))) (fB (f2 (gEq false) (fCut (fV 5) oNone (oSome (fC (.int 2)))) (fTup (fCons (fV 1) (fCons (fV 2) fNil))))) (fV 4) [4, 5])))
    (sRet (fIf (fB (f2 (gEq true) (fV 3) (fLst fNil))) (f2 gIx (fV 3) (fC (.int 0))) (fC .non))))
def m_eye_at : List D → Store → Res D := mOf 6 g_eye_at
def g_Stand_init : Stm := (sSeq (sFldSet "Stand" "word" (fV 0) (fC (.str "off")))
    (sSeq (sFldSet "Stand" "end" (fV 0) (fC .non))
    (sSeq (sFldSet "Stand" "mode" (fV 0) (fC .non))
    (sSeq (sFldSet "Stand" "without" (fV 0) (fTup fNil))
    (sSeq (sFldSet "Stand" "wide" (fV 0) (fTup fNil))
    (sSeq (sFldSet "Stand" "last" (fV 0) (fC (.int 0)))
    (sSeq (sFldSet "Stand" "rings" (fV 0) (fTup fNil))
    (sSeq (sFldSet "Stand" "cause" (fV 0) (fC .non))
    (sFldSet "Stand" "rows" (fV 0) (fTup fNil))))))))))
def m_Stand_init : List D → Store → Res D := mOf 1 g_Stand_init
def g_Panel_init : Stm := (sSeq (sExpr (fM 1 m_need_house (fCons (fV 1) fNil)))
    (sSeq (sFldSet "Panel" "house" (fV 0) (fV 1))
    (sSeq (sFldSet "Panel" "leaving" (fV 0) (fV 2))
    (sSeq (sFldSet "Panel" "entering" (fV 0) (fV 3))
    (sSeq (sFldSet "Panel" "ringing" (fV 0) (fV 4))
    (sSeq (sFldSet "Panel" "here" (fV 0) (fMake "Stand" 1 m_Stand_init fNil))
    (sSeq (sFldSet "Panel" "gone" (fV 0) (fLst fNil))
    (sFldSet "Panel" "coming" (fV 0) (fLst fNil)))))))))
def m_Panel_init : List D → Store → Res D := mOf 5 g_Panel_init
def g_Stand_copy : Stm := (sSeq (sSet 1 (fMake "Stand" 1 m_Stand_init fNil))
    (sSeq (sFldSet "Stand" "word" (fV 1) (fFld "Stand" "word" (fV 0)))
    (sSeq (sFldSet "Stand" "end" (fV 1) (fFld "Stand" "end" (fV 0)))
    (sSeq (sFldSet "Stand" "mode" (fV 1) (fFld "Stand" "mode" (fV 0)))
    (sSeq (sFldSet "Stand" "without" (fV 1) (fFld "Stand" "without" (fV 0)))
    (sSeq (sFldSet "Stand" "wide" (fV 1) (fFld "Stand" "wide" (fV 0)))
    (sSeq (sFldSet "Stand" "last" (fV 1) (fFld "Stand" "last" (fV 0)))
    (sSeq (sFldSet "Stand" "rings" (fV 1) (fFld "Stand" "rings" (fV 0)))
    (sSeq (sFldSet "Stand" "cause" (fV 1) (fFld "Stand" "cause" (fV 0)))
    (sSeq (sFldSet "Stand" "rows" (fV 1) (fFld "Stand" "rows" (fV 0)))
    (sRet (fV 1))))))))))))
def m_Stand_copy : List D → Store → Res D := mOf 2 g_Stand_copy
def g_Panel_ring : Stm := (sSeq (sIf (fB (f2 (gEq true) (fFld "Stand" "word" (fV 1)) (fC (.str "ringing")))) (sSeq (sFldSet "Stand" "rings" (fV 1) (f2 gAdd (fFld "Stand" "rings" (fV 1)) (fTup (fCons (fTup (fCons (fV 3) (fCons (fC .non) (fCons (fV 2) fNil)))) fNil))))
    (sFldSet "Stand" "word" (fV 1) (fC (.str "ringing")))) sNil)
    (sFldSet "Stand" "end" (fV 1) (f2 gAdd (fV 3) (fFld "Panel" "ringing" (fV 0)))))
def m_Panel_ring : List D → Store → Res D := mOf 4 g_Panel_ring
def g_Panel_hush : Stm := (sSeq (sAsg (tgTup 3 (tgCons (tgName 3) (tgCons (tgName 4) (tgCons (tgName 5) tgNil)))) (f2 gIx (fFld "Stand" "rings" (fV 1)) (fNeg (fC (.int 1)))))
    (sFldSet "Stand" "rings" (fV 1) (f2 gAdd (fCut (fFld "Stand" "rings" (fV 1)) oNone (oSome (fNeg (fC (.int 1))))) (fTup (fCons (fTup (fCons (fV 3) (fCons (fV 2) (fCons (fV 5) fNil)))) fNil)))))
def m_Panel_hush : List D → Store → Res D := mOf 6 g_Panel_hush
def g_Panel_eyes_by : Stm := (sSeq (sSet 2 (fN gList (fCons (fM 1 m_evers (fCons (fFld "Panel" "house" (fV 0)) fNil)) fNil)))
    (sSeq (sIf (fB (f2 (gIs true) (fFld "Stand" "mode" (fV 1)) (fC .non))) (sSet 2 (f2 gAdd (fV 2) (fFrz (fComp (fItems (f2 gIx (f2 gIx (fFld "Panel" "house" (fV 0)) (fC (.int 3))) (fFld "Stand" "mode" (fV 1)))) (tgName 3) (fB (f2 (gInX true) (fV 3) (fFld "Stand" "without" (fV 1)))) (fV 3) [3])))) sNil)
    (sRet (fN gSS (fCons (fV 2) fNil)))))
def m_Panel_eyes_by : List D → Store → Res D := mOf 4 g_Panel_eyes_by
def g_Panel_trip : Stm := (sSeq (sSet 4 (f2 gIx (f2 gIx (f2 gIx (fFld "Panel" "house" (fV 0)) (fC (.int 2))) (fV 2)) (fC (.int 2))))
    (sIf (fB (f2 (gEq false) (fV 4) (fC (.str "ever")))) (sExpr (fMeth "Panel" "ring" 4 m_Panel_ring (fV 0) (fCons (fV 1) (fCons (fV 2) (fCons (fV 3) fNil))))) (sIf (fAnd (fB (f2 (gInX false) (fV 2) (fMeth "Panel" "eyes_by" 2 m_Panel_eyes_by (fV 0) (fCons (fV 1) fNil)))) (fB (f2 (gInX false) (fFld "Stand" "word" (fV 1)) (fTup (fCons (fC (.str "set")) (fCons (fC (.str "entering")) (fCons (fC (.str "ringing")) fNil))))))) (sIf (fAnd (fB (f2 (gEq false) (fFld "Stand" "word" (fV 1)) (fC (.str "set")))) (fAnd (fB (f2 (gEq false) (fV 4) (fC (.str "late")))) (fB (f2 gGt (fFld "Panel" "entering" (fV 0)) (fC (.int 0)))))) (sSeq (sFldSet "Stand" "word" (fV 1) (fC (.str "entering")))
    (sSeq (sFldSet "Stand" "end" (fV 1) (f2 gAdd (fV 3) (fFld "Panel" "entering" (fV 0))))
    (sFldSet "Stand" "cause" (fV 1) (fV 2)))) (sIf (fOr (fB (f2 (gEq true) (fFld "Stand" "word" (fV 1)) (fC (.str "entering")))) (fB (f2 (gEq false) (fV 4) (fC (.str "soon"))))) (sExpr (fMeth "Panel" "ring" 4 m_Panel_ring (fV 0) (fCons (fV 1) (fCons (fV 2) (fCons (fV 3) fNil))))) sNil)) sNil)))
def m_Panel_trip : List D → Store → Res D := mOf 5 g_Panel_trip
def b_Panel_turn_by_time_1 : Stm := (sSeq (sAsg (tgTup 3 (tgCons (tgName 4) (tgCons (tgName 5) (tgCons (tgName 6) tgNil)))) (f2 gIx (f2 gIx (fFld "Panel" "house" (fV 0)) (fC (.int 2))) (fV 3)))
    (sIf (fAnd (fB (f2 (gEq false) (fV 4) (fC (.str "door")))) (fAnd (fB (f2 (gEq true) (fV 6) (fC (.str "ever")))) (fB (f2 (gInX false) (fV 5) (fFld "Stand" "wide" (fV 1)))))) (sExpr (fMeth "Panel" "trip" 4 m_Panel_trip (fV 0) (fCons (fV 1) (fCons (fV 3) (fCons (fV 2) fNil))))) sNil))
def g_Panel_turn_by_time : Stm := (sSeq (sSet 2 (fFld "Stand" "end" (fV 1)))
    (sIf (fB (f2 (gEq false) (fFld "Stand" "word" (fV 1)) (fC (.str "entering")))) (sExpr (fMeth "Panel" "ring" 4 m_Panel_ring (fV 0) (fCons (fV 1) (fCons (fFld "Stand" "cause" (fV 1)) (fCons (fV 2) fNil))))) (sIf (fB (f2 (gEq false) (fFld "Stand" "word" (fV 1)) (fC (.str "ringing")))) (sSeq (sExpr (fMeth "Panel" "hush" 3 m_Panel_hush (fV 0) (fCons (fV 1) (fCons (fV 2) fNil))))
    (sSeq (sFldSet "Stand" "word" (fV 1) (fIf (fB (f2 (gIs false) (fFld "Stand" "mode" (fV 1)) (fC .non))) (fC (.str "off")) (fC (.str "set"))))
    (sFldSet "Stand" "end" (fV 1) (fC .non)))) (sSeq (sFldSet "Stand" "word" (fV 1) (fC (.str "set")))
    (sSeq (sFldSet "Stand" "end" (fV 1) (fC .non))
    (sFor (fItems (fMeth "Panel" "eyes_by" 2 m_Panel_eyes_by (fV 0) (fCons (fV 1) fNil))) (tgName 3) b_Panel_turn_by_time_1))))))
def m_Panel_turn_by_time : List D → Store → Res D := mOf 7 g_Panel_turn_by_time
def b_Panel_behind_1 : Stm := (sExpr (fMeth "Panel" "turn_by_time" 2 m_Panel_turn_by_time (fV 0) (fCons (fV 2) fNil)))
def g_Panel_behind : Stm := (sSeq (sIf (fB (f2 gLt (fV 1) (fFld "Stand" "last" (fFld "Panel" "here" (fV 0))))) (sRaise "NoTime") sNil)
    (sSeq (sSet 2 (fMeth "Stand" "copy" 1 m_Stand_copy (fFld "Panel" "here" (fV 0)) fNil))
    (sSeq (sWhile (fAnd (fB (f2 (gIs true) (fFld "Stand" "end" (fV 2)) (fC .non))) (fB (f2 gLe (fFld "Stand" "end" (fV 2)) (fV 1)))) b_Panel_behind_1)
    (sSeq (sFldSet "Stand" "last" (fV 2) (fV 1))
    (sRet (fV 2))))))
def m_Panel_behind : List D → Store → Res D := mOf 3 g_Panel_behind
def g_Panel_turn_to : Stm := (sSeq (sFldSet "Stand" "rows" (fV 1) (f2 gAdd (fFld "Stand" "rows" (fV 1)) (fTup (fCons (fTup (fCons (fFld "Stand" "last" (fV 1)) (fCons (fV 2) (fCons (fV 3) fNil)))) fNil))))
    (sSeq (sFldSet "Panel" "gone" (fV 0) (f2 gAdd (fFld "Panel" "gone" (fV 0)) (fLst (fCons (fTup (fCons (fV 2) (fCons (fFld "Panel" "here" (fV 0)) fNil))) fNil))))
    (sSeq (sFldSet "Panel" "coming" (fV 0) (fLst fNil))
    (sSeq (sFldSet "Panel" "here" (fV 0) (fV 1))
    (sRet (fFld "Stand" "word" (fV 1)))))))
def m_Panel_turn_to : List D → Store → Res D := mOf 4 g_Panel_turn_to
def b_Panel_arm_1 : Stm := (sSeq (sAsg (tgTup 3 (tgCons (tgName 6) (tgCons (tgName 7) (tgCons (tgName 8) tgNil)))) (f2 gIx (f2 gIx (fFld "Panel" "house" (fV 0)) (fC (.int 2))) (fV 5)))
    (sIf (fAnd (fB (f2 (gInX true) (fV 5) (fV 3))) (fAnd (fB (f2 (gEq false) (fV 6) (fC (.str "door")))) (fAnd (fB (f2 (gEq false) (fV 8) (fC (.str "soon")))) (fB (f2 (gInX false) (fV 7) (fFld "Stand" "wide" (fV 4))))))) (sRaise "Ajar") sNil))
def b_Panel_arm_2 : Stm := (sExpr (fMeth "Panel" "turn_by_time" 2 m_Panel_turn_by_time (fV 0) (fCons (fV 4) fNil)))
def g_Panel_arm : Stm := (sSeq (sSet 4 (fMeth "Panel" "behind" 2 m_Panel_behind (fV 0) (fCons (fV 1) fNil)))
    (sSeq (sExpr (fM 2 m_need_mode (fCons (fFld "Panel" "house" (fV 0)) (fCons (fV 2) fNil))))
    (sSeq (sIf (fNot (fB (fM 2 m_is_mode (fCons (fV 3) (fCons (fN gLen (fCons (f2 gIx (fFld "Panel" "house" (fV 0)) (fC (.int 2))) fNil)) fNil))))) (sRaise "NoEye") sNil)
    (sSeq (sIf (fB (f2 (gEq true) (fFld "Stand" "word" (fV 4)) (fC (.str "off")))) (sRaise "NotOff") sNil)
    (sSeq (sFor (fItems (f2 gIx (f2 gIx (fFld "Panel" "house" (fV 0)) (fC (.int 3))) (fV 2))) (tgName 5) b_Panel_arm_1)
    (sSeq (sFldSet "Stand" "word" (fV 4) (fC (.str "leaving")))
    (sSeq (sFldSet "Stand" "end" (fV 4) (f2 gAdd (fV 1) (fFld "Panel" "leaving" (fV 0))))
    (sSeq (sFldSet "Stand" "mode" (fV 4) (fV 2))
    (sSeq (sFldSet "Stand" "without" (fV 4) (fV 3))
    (sSeq (sWhile (fAnd (fB (f2 (gIs true) (fFld "Stand" "end" (fV 4)) (fC .non))) (fB (f2 gLe (fFld "Stand" "end" (fV 4)) (fV 1)))) b_Panel_arm_2)
    (sRet (fMeth "Panel" "turn_to" 4 m_Panel_turn_to (fV 0) (fCons (fV 4) (fCons (fC (.str "arm")) (fCons (fTup (fCons (fV 2) (fCons (fV 3) fNil))) fNil)))))))))))))))
def m_Panel_arm : List D → Store → Res D := mOf 9 g_Panel_arm
def g_Panel_lift : Stm := (sSeq (sSet 2 (fMeth "Panel" "behind" 2 m_Panel_behind (fV 0) (fCons (fV 1) fNil)))
    (sSeq (sSet 3 (fFld "Stand" "word" (fV 2)))
    (sSeq (sIf (fB (f2 (gEq false) (fV 3) (fC (.str "off")))) (sRaise "NotSet") sNil)
    (sSeq (sIf (fB (f2 (gEq false) (fV 3) (fC (.str "ringing")))) (sExpr (fMeth "Panel" "hush" 3 m_Panel_hush (fV 0) (fCons (fV 2) (fCons (fV 1) fNil)))) sNil)
    (sSeq (sFldSet "Stand" "word" (fV 2) (fC (.str "off")))
    (sSeq (sFldSet "Stand" "end" (fV 2) (fC .non))
    (sSeq (sFldSet "Stand" "mode" (fV 2) (fC .non))
    (sSeq (sFldSet "Stand" "without" (fV 2) (fTup fNil))
    (sSeq (sExpr (fMeth "Panel" "turn_to" 4 m_Panel_turn_to (fV 0) (fCons (fV 2) (fCons (fC (.str "lift")) (fCons (fC .non) fNil)))))
    (sRet (fV 3)))))))))))
def m_Panel_lift : List D → Store → Res D := mOf 4 g_Panel_lift
def g_Panel_need_door : Stm := (sIf (fNot (fB (fM 3 m_is_number (fCons (fV 1) (fCons (fC (.int 0)) (fCons (f2 gSub (fN gLen (fCons (f2 gIx (fFld "Panel" "house" (fV 0)) (fC (.int 1))) fNil)) (fC (.int 1))) fNil)))))) (sRaise "NoDoor") sNil)
def m_Panel_need_door : List D → Store → Res D := mOf 2 g_Panel_need_door
def g_Panel_tripped : Stm := (sSeq (sSet 4 (fM 3 m_eye_at (fCons (fFld "Panel" "house" (fV 0)) (fCons (fV 2) (fCons (fV 3) fNil)))))
    (sIf (fB (f2 (gIs true) (fV 4) (fC .non))) (sExpr (fMeth "Panel" "trip" 4 m_Panel_trip (fV 0) (fCons (fV 1) (fCons (fV 4) (fCons (fFld "Stand" "last" (fV 1)) fNil))))) sNil))
def m_Panel_tripped : List D → Store → Res D := mOf 5 g_Panel_tripped
def g_Panel_opened : Stm := (sSeq (sSet 3 (fMeth "Panel" "behind" 2 m_Panel_behind (fV 0) (fCons (fV 2) fNil)))
    (sSeq (sExpr (fMeth "Panel" "need_door" 2 m_Panel_need_door (fV 0) (fCons (fV 1) fNil)))
    (sSeq (sIf (fB (f2 (gInX false) (fV 1) (fFld "Stand" "wide" (fV 3)))) (sRaise "AsIs") sNil)
    (sSeq (sFldSet "Stand" "wide" (fV 3) (fN gTuple (fCons (fN gSortedY (fCons (f2 gAdd (fFld "Stand" "wide" (fV 3)) (fTup (fCons (fV 1) fNil))) fNil)) fNil)))
    (sSeq (sExpr (fMeth "Panel" "tripped" 4 m_Panel_tripped (fV 0) (fCons (fV 3) (fCons (fC (.str "door")) (fCons (fV 1) fNil)))))
    (sRet (fMeth "Panel" "turn_to" 4 m_Panel_turn_to (fV 0) (fCons (fV 3) (fCons (fC (.str "opened")) (fCons (fV 1) fNil))))))))))
def m_Panel_opened : List D → Store → Res D := mOf 4 g_Panel_opened
def g_Panel_closed : Stm := (sSeq (sSet 3 (fMeth "Panel" "behind" 2 m_Panel_behind (fV 0) (fCons (fV 2) fNil)))
    (sSeq (sExpr (fMeth "Panel" "need_door" 2 m_Panel_need_door (fV 0) (fCons (fV 1) fNil)))
    (sSeq (sIf (fB (f2 (gInX true) (fV 1) (fFld "Stand" "wide" (fV 3)))) (sRaise "AsIs") sNil)
    (sSeq (sFldSet "Stand" "wide" (fV 3) (fN gTuple (fCons (fFrz (fComp (fItems (fFld "Stand" "wide" (fV 3))) (tgName 4) (fB (f2 (gEq true) (fV 4) (fV 1))) (fV 4) [4])) fNil)))
    (sRet (fMeth "Panel" "turn_to" 4 m_Panel_turn_to (fV 0) (fCons (fV 3) (fCons (fC (.str "closed")) (fCons (fV 1) fNil)))))))))
def m_Panel_closed : List D → Store → Res D := mOf 5 g_Panel_closed
def g_Panel_moved : Stm := (sSeq (sSet 3 (fMeth "Panel" "behind" 2 m_Panel_behind (fV 0) (fCons (fV 2) fNil)))
    (sSeq (sIf (fNot (fB (fM 3 m_is_number (fCons (fV 1) (fCons (fC (.int 1)) (fCons (f2 gSub (f2 gIx (fFld "Panel" "house" (fV 0)) (fC (.int 0))) (fC (.int 1))) fNil)))))) (sRaise "NoRoom") sNil)
    (sSeq (sExpr (fMeth "Panel" "tripped" 4 m_Panel_tripped (fV 0) (fCons (fV 3) (fCons (fC (.str "room")) (fCons (fV 1) fNil)))))
    (sRet (fMeth "Panel" "turn_to" 4 m_Panel_turn_to (fV 0) (fCons (fV 3) (fCons (fC (.str "moved")) (fCons (fV 1) fNil))))))))
def m_Panel_moved : List D → Store → Res D := mOf 4 g_Panel_moved
def g_Panel_wait : Stm := (sRet (fMeth "Panel" "turn_to" 4 m_Panel_turn_to (fV 0) (fCons (fMeth "Panel" "behind" 2 m_Panel_behind (fV 0) (fCons (fV 1) fNil)) (fCons (fC (.str "wait")) (fCons (fC .non) fNil)))))
def m_Panel_wait : List D → Store → Res D := mOf 2 g_Panel_wait
def g_Panel_clock : Stm := (sRet (fFld "Stand" "last" (fFld "Panel" "here" (fV 0))))
def m_Panel_clock : List D → Store → Res D := mOf 1 g_Panel_clock
def g_Panel_twin : Stm := (sSeq (sSet 1 (fMake "Panel" 5 m_Panel_init (fCons (fFld "Panel" "house" (fV 0)) (fCons (fFld "Panel" "leaving" (fV 0)) (fCons (fFld "Panel" "entering" (fV 0)) (fCons (fFld "Panel" "ringing" (fV 0)) fNil))))))
    (sSeq (sFldSet "Panel" "here" (fV 1) (fFld "Panel" "here" (fV 0)))
    (sSeq (sFldSet "Panel" "gone" (fV 1) (fN gList (fCons (fFld "Panel" "gone" (fV 0)) fNil)))
    (sSeq (sFldSet "Panel" "coming" (fV 1) (fN gList (fCons (fFld "Panel" "coming" (fV 0)) fNil)))
    (sRet (fV 1))))))
def m_Panel_twin : List D → Store → Res D := mOf 2 g_Panel_twin
def g_Panel_log : Stm := (sRet (fN gList (fCons (fFld "Stand" "rows" (fFld "Panel" "here" (fV 0))) fNil)))
def m_Panel_log : List D → Store → Res D := mOf 1 g_Panel_log
def g_Codes_init : Stm := (sSeq (sFldSet "Codes" "tries" (fV 0) (fV 1))
    (sSeq (sFldSet "Codes" "rest" (fV 0) (fV 2))
    (sSeq (sFldSet "Codes" "rows" (fV 0) (fC (.dic [])))
    (sSeq (sFldSet "Codes" "misses" (fV 0) (fC (.int 0)))
    (sSeq (sFldSet "Codes" "since" (fV 0) (fC (.int 0)))
    (sSeq (sFldSet "Codes" "shut" (fV 0) (fC (.int 0)))
    (sFldSet "Codes" "last" (fV 0) (fC (.int 0)))))))))
def m_Codes_init : List D → Store → Res D := mOf 3 g_Codes_init
def g_is_name : Stm := (sRet (vAnd (fIsi isStrD (fV 0)) (vAnd (fChain gLe gLe (fC (.int 1)) (fN gLen (fCons (fV 0) fNil)) (fC (.int 6))) (fN gAll (fCons (fFrz (fComp (fItems (fV 0)) (tgName 1) fYes (f2 (gInX false) (fV 1) (fC (.str "abcdefghijklmnopqrstuvwxyz"))) [1])) fNil)))))
def m_is_name : List D → Store → Res D := mOf 2 g_is_name
def g_is_code : Stm := (sRet (vAnd (fIsi isStrD (fV 0)) (vAnd (fChain gLe gLe (fC (.int 4)) (fN gLen (fCons (fV 0) fNil)) (fC (.int 6))) (fN gAll (fCons (fFrz (fComp (fItems (fV 0)) (tgName 1) fYes (f2 (gInX false) (fV 1) (fC (.str "0123456789"))) [1])) fNil)))))
def m_is_code : List D → Store → Res D := mOf 2 g_is_code
def g_are_rights : Stm := (sRet (vAnd (fIsi isTupD (fV 0)) (f2 (gInX false) (fV 0) (fTup (fCons (fTup fNil) (fCons (fTup (fCons (fC (.str "lift")) fNil)) (fCons (fTup (fCons (fC (.str "set")) fNil)) (fCons (fC (.tup [(.str "lift"), (.str "set")])) fNil))))))))
def m_are_rights : List D → Store → Res D := mOf 1 g_are_rights
def g_Codes_who : Stm := (sSeq (sSet 2 (fFrz (fComp (fItems (fFld "Codes" "rows" (fV 0))) (tgName 3) (fB (f2 (gEq false) (f2 gIx (f2 gIx (fFld "Codes" "rows" (fV 0)) (fV 3)) (fC (.int 0))) (fV 1))) (fV 3) [3])))
    (sRet (fIf (fB (f2 (gEq true) (fV 2) (fLst fNil))) (f2 gIx (fV 2) (fC (.int 0))) (fC .non))))
def m_Codes_who : List D → Store → Res D := mOf 4 g_Codes_who
def g_Codes_give : Stm := (sSeq (sIf (fNot (fB (fM 1 m_is_name (fCons (fV 1) fNil)))) (sRaise "NoName") sNil)
    (sSeq (sIf (fNot (fB (fM 1 m_is_code (fCons (fV 2) fNil)))) (sRaise "NoCode") sNil)
    (sSeq (sIf (fNot (fB (fM 1 m_are_rights (fCons (fV 3) fNil)))) (sRaise "NoRight") sNil)
    (sSeq (sIf (fOr (fB (f2 (gInX false) (fV 1) (fFld "Codes" "rows" (fV 0)))) (fB (f2 (gIs true) (fMeth "Codes" "who" 2 m_Codes_who (fV 0) (fCons (fV 2) fNil)) (fC .non)))) (sRaise "Taken") sNil)
    (sSeq (sSetOwnD 4 (fDict (fCons (fFld "Codes" "rows" (fV 0)) fNil)))
    (sSeq (sPutOwnD 4 (fV 1) (fTup (fCons (fV 2) (fCons (fV 3) fNil))))
    (sFreeze 4 (sSeq (sFldSet "Codes" "rows" (fV 0) (fV 4))
    (sRet (fN gLen (fCons (fV 4) fNil)))))))))))
def m_Codes_give : List D → Store → Res D := mOf 5 g_Codes_give
def g_Codes_take : Stm := (sSeq (sIf (fB (f2 (gInX true) (fV 1) (fFld "Codes" "rows" (fV 0)))) (sRaise "NoName") sNil)
    (sSeq (sSet 2 (f2 gIx (fFld "Codes" "rows" (fV 0)) (fV 1)))
    (sSeq (sFldSet "Codes" "rows" (fV 0) (fN gDictP (fCons (fFrz (fComp (fItems (fFld "Codes" "rows" (fV 0))) (tgName 3) (fB (f2 (gEq true) (fV 3) (fV 1))) (fTup (fCons (fV 3) (fCons (f2 gIx (fFld "Codes" "rows" (fV 0)) (fV 3)) fNil))) [3])) fNil)))
    (sRet (fV 2)))))
def m_Codes_take : List D → Store → Res D := mOf 4 g_Codes_take
def g_Codes_locked_at : Stm := (sRet (fChain gLe gLt (fFld "Codes" "since" (fV 0)) (fV 1) (fFld "Codes" "shut" (fV 0))))
def m_Codes_locked_at : List D → Store → Res D := mOf 2 g_Codes_locked_at
def g_Codes_ask : Stm := (sSeq (sIf (fB (f2 gLt (fV 2) (fFld "Codes" "last" (fV 0)))) (sRaise "NoTime") sNil)
    (sSeq (sIf (fB (fMeth "Codes" "locked_at" 2 m_Codes_locked_at (fV 0) (fCons (fV 2) fNil))) (sRaise "Locked") sNil)
    (sSeq (sFldSet "Codes" "last" (fV 0) (fV 2))
    (sSeq (sSet 4 (fMeth "Codes" "who" 2 m_Codes_who (fV 0) (fCons (fV 1) fNil)))
    (sSeq (sIf (fB (f2 (gIs false) (fV 4) (fC .non))) (sSeq (sFldSet "Codes" "misses" (fV 0) (f2 gAdd (fFld "Codes" "misses" (fV 0)) (fC (.int 1))))
    (sSeq (sIf (fB (f2 gGe (fFld "Codes" "misses" (fV 0)) (fFld "Codes" "tries" (fV 0)))) (sSeq (sFldSet "Codes" "misses" (fV 0) (fC (.int 0)))
    (sSeq (sFldSet "Codes" "since" (fV 0) (fV 2))
    (sFldSet "Codes" "shut" (fV 0) (f2 gAdd (fV 2) (fFld "Codes" "rest" (fV 0)))))) sNil)
    (sRaise "Wrong"))) sNil)
    (sSeq (sFldSet "Codes" "misses" (fV 0) (fC (.int 0)))
    (sSeq (sIf (fB (f2 (gInX true) (fV 3) (f2 gIx (f2 gIx (fFld "Codes" "rows" (fV 0)) (fV 4)) (fC (.int 1))))) (sRaise "NoRight") sNil)
    (sRet (fV 4)))))))))
def m_Codes_ask : List D → Store → Res D := mOf 5 g_Codes_ask
def g_Codes_names : Stm := (sRet (fN gSortedY (fCons (fFld "Codes" "rows" (fV 0)) fNil)))
def m_Codes_names : List D → Store → Res D := mOf 1 g_Codes_names
def g_Guard_init : Stm := (sSeq (sFldSet "Guard" "panel" (fV 0) (fMake "Panel" 5 m_Panel_init (fCons (fV 1) (fCons (fV 2) (fCons (fV 3) (fCons (fV 4) fNil))))))
    (sSeq (sFldSet "Guard" "codes" (fV 0) (fMake "Codes" 3 m_Codes_init (fCons (fV 5) (fCons (fV 6) fNil))))
    (sFldSet "Guard" "acts" (fV 0) (fLst fNil))))
def m_Guard_init : List D → Store → Res D := mOf 7 g_Guard_init
def g_Guard_give : Stm := (sRet (fMeth "Codes" "give" 4 m_Codes_give (fFld "Guard" "codes" (fV 0)) (fCons (fV 1) (fCons (fV 2) (fCons (fV 3) fNil)))))
def m_Guard_give : List D → Store → Res D := mOf 4 g_Guard_give
def g_Guard_shown : Stm := (sRet (fMeth "Panel" "twin" 1 m_Panel_twin (fFld "Guard" "panel" (fV 0)) fNil))
def m_Guard_shown : List D → Store → Res D := mOf 1 g_Guard_shown
def g_Guard_need_time : Stm := (sIf (fB (f2 gLt (fV 1) (fMeth "Panel" "clock" 1 m_Panel_clock (fFld "Guard" "panel" (fV 0)) fNil))) (sRaise "NoTime") sNil)
def m_Guard_need_time : List D → Store → Res D := mOf 2 g_Guard_need_time
def g_Guard_set_by : Stm := (sSeq (sExpr (fMeth "Guard" "need_time" 2 m_Guard_need_time (fV 0) (fCons (fV 2) fNil)))
    (sSeq (sSet 5 (fMeth "Codes" "ask" 4 m_Codes_ask (fFld "Guard" "codes" (fV 0)) (fCons (fV 1) (fCons (fV 2) (fCons (fC (.str "set")) fNil)))))
    (sSeq (sSet 6 (fMeth "Panel" "arm" 4 m_Panel_arm (fFld "Guard" "panel" (fV 0)) (fCons (fV 2) (fCons (fV 3) (fCons (fV 4) fNil)))))
    (sSeq (sFldSet "Guard" "acts" (fV 0) (f2 gAdd (fFld "Guard" "acts" (fV 0)) (fLst (fCons (fTup (fCons (fV 2) (fCons (fV 5) (fCons (fC (.str "arm")) fNil)))) fNil))))
    (sRet (fTup (fCons (fV 5) (fCons (fV 6) fNil))))))))
def m_Guard_set_by : List D → Store → Res D := mOf 7 g_Guard_set_by
def g_Guard_lift_by : Stm := (sSeq (sExpr (fMeth "Guard" "need_time" 2 m_Guard_need_time (fV 0) (fCons (fV 2) fNil)))
    (sSeq (sSet 3 (fMeth "Codes" "ask" 4 m_Codes_ask (fFld "Guard" "codes" (fV 0)) (fCons (fV 1) (fCons (fV 2) (fCons (fC (.str "lift")) fNil)))))
    (sSeq (sSet 4 (fMeth "Panel" "lift" 2 m_Panel_lift (fFld "Guard" "panel" (fV 0)) (fCons (fV 2) fNil)))
    (sSeq (sFldSet "Guard" "acts" (fV 0) (f2 gAdd (fFld "Guard" "acts" (fV 0)) (fLst (fCons (fTup (fCons (fV 2) (fCons (fV 3) (fCons (fC (.str "lift")) fNil)))) fNil))))
    (sRet (fTup (fCons (fV 3) (fCons (fV 4) fNil))))))))
def m_Guard_lift_by : List D → Store → Res D := mOf 5 g_Guard_lift_by
def g_Guard_done_by : Stm := (sRet (fFrz (fComp (fItems (fFld "Guard" "acts" (fV 0))) (tgTup 3 (tgCons (tgName 2) (tgCons (tgName 3) (tgCons (tgName 4) tgNil)))) (fB (f2 (gEq false) (fV 3) (fV 1))) (fTup (fCons (fV 2) (fCons (fV 4) fNil))) [2, 3, 4])))
def m_Guard_done_by : List D → Store → Res D := mOf 5 g_Guard_done_by
def g_Guard_take : Stm := (sRet (fMeth "Codes" "take" 2 m_Codes_take (fFld "Guard" "codes" (fV 0)) (fCons (fV 1) fNil)))
def m_Guard_take : List D → Store → Res D := mOf 2 g_Guard_take
def g_Guard_names : Stm := (sRet (fMeth "Codes" "names" 1 m_Codes_names (fFld "Guard" "codes" (fV 0)) fNil))
def m_Guard_names : List D → Store → Res D := mOf 1 g_Guard_names
end BW
namespace BW
open PySem PySem.Spec PyProof.Rows L2
def XS : List Str := ["NoHouse", "NoMode", "NoEye", "NoTime", "NotOff", "Ajar", "NotSet", "NoName", "NoCode", "NoRight", "Taken", "Wrong", "Locked"]
def b_law_told_1 : Stm := (sRet (fIf (fB (f2 (gEq false) (fV 1) (fC (.str "arm")))) (fMeth "Guard" "set_by" 5 m_Guard_set_by (fV 0) (fCons (fV 2) (fCons (fV 3) (fCons (fC (.int 0)) (fCons (fTup fNil) fNil))))) (fMeth "Guard" "lift_by" 3 m_Guard_lift_by (fV 0) (fCons (fV 2) (fCons (fV 3) fNil)))))
def b_law_told_2 (a : Addr) (c : Str) : Stm := (sSeq (sSet 5 (fLst (fCons (fAt 4 a fun S => .ok (.bl (isaX c "Wrong")) S) (fCons (fAt 4 a fun S => .ok (.bl (isaX c "Locked")) S) (fCons (fAt 4 a fun S => .ok (.bl (isaX c "NoRight")) S) (fCons (fAt 4 a fun S => .ok (.bl (isaX c "NotOff")) S) fNil))))))
    (sSeq (sSet 5 (f2 gAdd (fV 5) (fLst (fCons (fAt 4 a fun S => .ok (.bl (isaX c "NotSet")) S) (fCons (fAt 4 a fun S => .ok (.bl (isaX c "Ajar")) S) fNil)))))
    (sRet (fIf (fAnd (fB (f2 (gEq false) (fMt gCountT (fV 5) (fCons (fC (.bl true)) fNil)) (fC (.int 1)))) (fB (fAt 4 a fun S => .ok (.bl true) S))) (fMt gIndexT (fV 5) (fCons (fC (.bl true)) fNil)) (fNeg (fC (.int 1)))))))
theorem b_law_told_2_par {a : Addr} {c : Str} {ρ : BW.Env} {S : Store} {d : D} {S1 : Store} (hi : 4 < ρ.length) (h : b_law_told_2 0 c ((ρ.set 4 none).set 4 (some (.adr 0))) S = .ret d S1) : b_law_told_2 a c (ρ.set 4 (some (.adr a))) S = .ret d S1 := by
  rcases ρ with _ | ⟨r0, _ | ⟨r1, _ | ⟨r2, _ | ⟨r3, _ | ⟨r4, _ | ⟨r5, ρ⟩⟩⟩⟩⟩⟩
  · simp at hi
  · simp at hi
  · simp at hi
  · simp at hi
  · simp at hi
  · have z4 : (4 : Nat) ≤ LIM := by unfold LIM; decide
    have z2 : (2 : Nat) ≤ LIM := by unfold LIM; decide
    have f0 : fV 0 [] S = .bad := rfl
    simp -implicitDefEqProofs [b_law_told_2, fAt, z4, z2, f0] at h
  · have z4 : (4 : Nat) ≤ LIM := by unfold LIM; decide
    have z2 : (2 : Nat) ≤ LIM := by unfold LIM; decide
    simp -implicitDefEqProofs [b_law_told_2, fAt, z4, z2] at h ⊢
    generalize gAdd (.lst [.bl (isaX c "Wrong"), .bl (isaX c "Locked"), .bl (isaX c "NoRight"), .bl (isaX c "NotOff")]) (.lst [.bl (isaX c "NotSet"), .bl (isaX c "Ajar")]) S = o at h ⊢
    cases o with
    | none => simp at h
    | some x =>
      simp -implicitDefEqProofs at h ⊢
      exact ret_of h
def g_law_told : Stm := (sTryB b_law_told_1 4 XS fun c ρ S => b_law_told_2 0 c (ρ.set 4 (some (.adr 0))) S)
def m_law_told : List D → Store → Res D := mOf 6 g_law_told
def b_law_1 : Stm := (sSeq (sSet 9 (f2 gIx (fLst (fCons (fTup fNil) (fCons (fTup (fCons (fC (.str "lift")) fNil)) (fCons (fTup (fCons (fC (.str "set")) fNil)) (fCons (fTup (fCons (fC (.str "lift")) (fCons (fC (.str "set")) fNil))) fNil))))) (fM 3 m_law_drawn (fCons (fV 0) (fCons (f2 gAdd (fC (.int 111)) (fV 4)) (fCons (fC (.int 4)) fNil))))))
    (sSeq (sPutOwnD 3 (f2 gIx (fC (.str "abcd")) (fV 4)) (fTup (fCons (f2 gMulX (fN gStr (fCons (fV 4) fNil)) (f2 gAdd (fC (.int 4)) (f2 gMod (fV 4) (fC (.int 3))))) (fCons (fV 9) fNil))))
    (sExpr (fMeth "Guard" "give" 4 m_Guard_give (fV 7) (fCons (f2 gIx (fC (.str "abcd")) (fV 4)) (fCons (f2 gIx (fIxOwnD 3 (f2 gIx (fC (.str "abcd")) (fV 4))) (fC (.int 0))) (fCons (fV 9) fNil)))))))
def b_law_2 : Stm := (sSeq (sSet 10 (f2 gAdd (fV 10) (fM 3 m_law_drawn (fCons (fV 0) (fCons (f2 gAdd (fC (.int 120)) (f2 gMulX (fC (.int 4)) (fV 4))) (fCons (fC (.int 3)) fNil))))))
    (sSeq (sSet 12 (f2 gIx (fC (.str "abcd")) (fM 3 m_law_drawn (fCons (fV 0) (fCons (f2 gAdd (fC (.int 121)) (f2 gMulX (fC (.int 4)) (fV 4))) (fCons (fC (.int 4)) fNil))))))
    (sSeq (sSet 13 (f2 gIx (fLst (fCons (fC (.str "arm")) (fCons (fC (.str "lift")) fNil))) (fM 3 m_law_drawn (fCons (fV 0) (fCons (f2 gAdd (fC (.int 122)) (f2 gMulX (fC (.int 4)) (fV 4))) (fCons (fC (.int 2)) fNil))))))
    (sSeq (sSet 14 (fMeth "Panel" "log" 1 m_Panel_log (fMeth "Guard" "shown" 1 m_Guard_shown (fV 7) fNil) fNil))
    (sSeq (sSet 15 (fM 4 m_law_told (fCons (fV 7) (fCons (fV 13) (fCons (f2 gIx (f2 gIx (fV 3) (fV 12)) (fC (.int 0))) (fCons (fV 10) fNil))))))
    (sSeq (sSet 16 (fIf (fB (f2 (gEq false) (fV 13) (fC (.str "arm")))) (fC (.str "set")) (fC (.str "lift"))))
    (sSeq (sIf (fB (fInOwn true (fV 12) 5)) (sSet 17 (fC (.int 0))) (sIf (fB (f2 (gInX true) (fV 16) (f2 gIx (f2 gIx (fV 3) (fV 12)) (fC (.int 1))))) (sSet 17 (fC (.int 2))) (sIf (fB (f2 (gEq false) (fV 11) (f2 (gEq false) (fV 13) (fC (.str "arm"))))) (sSet 17 (fIf (fB (fV 11)) (fC (.int 3)) (fC (.int 4)))) (sSeq (sSet 11 (f2 (gEq false) (fV 13) (fC (.str "arm"))))
    (sSet 17 (fTup (fCons (fV 12) (fCons (fIf (fB (fV 11)) (fC (.str "leaving")) (fIf (fB (fIsi isTupD (fV 15))) (f2 gIx (fV 15) (fC (.int 1))) (fC (.str "?")))) fNil))))))))
    (sSeq (sIf (fOr (fB (fEqDis true (fLst (fCons (fV 15) (fCons (fMeth "Guard" "names" 1 m_Guard_names (fV 7) fNil) fNil))) (fV 17) 5)) (fB (f2 (gEq true) (f2 (gEq false) (fMeth "Panel" "log" 1 m_Panel_log (fMeth "Guard" "shown" 1 m_Guard_shown (fV 7) fNil) fNil) (fV 14)) (fIsi isIntD (fV 17))))) (sRet (fC (.bl false))) sNil)
    (sIf (fAnd (fB (f2 (gEq false) (fM 3 m_law_drawn (fCons (fV 0) (fCons (f2 gAdd (fC (.int 123)) (f2 gMulX (fC (.int 4)) (fV 4))) (fCons (fC (.int 5)) fNil)))) (fC (.int 0)))) (fB (fInOwn false (fV 12) 5))) (sSeq (sRemoveS 5 (fCons (fV 12) fNil))
    (sIf (fB (f2 (gEq true) (fMeth "Guard" "take" 2 m_Guard_take (fV 7) (fCons (fV 12) fNil)) (f2 gIx (fV 3) (fV 12)))) (sRet (fC (.bl false))) sNil)) sNil)))))))))
def g_law : Stm := (sSeq (sSet 1 (fM 2 m_law_house (fCons (fV 0) (fCons (fC (.int 0)) fNil))))
    (sSeq (sSet 2 (f2 gAdd (fC (.int 1)) (fM 3 m_law_drawn (fCons (fV 0) (fCons (fC (.int 110)) (fCons (fC (.int 9)) fNil))))))
    (sSeq (sAsg (tgLst 2 (tgCons (tgName 7) (tgCons (tgName 8) tgNil))) (fFrz (fComp (fI kRng1 (fCons (fC (.int 2)) fNil)) (tgName 4) fYes (fMake "Guard" 7 m_Guard_init (fCons (fV 1) (fCons (fV 2) (fCons (fC (.int 5)) (fCons (fC (.int 5)) (fCons (fC (.int 99)) (fCons (fC (.int 5)) fNil))))))) [4])))
    (sSeq (sSetOwnD 3 fDict0)
    (sSeq (sFor (fI kRng1 (fCons (fC (.int 4)) fNil)) (tgName 4) b_law_1)
    (sFreeze 3 (sSeq (sSetOwn 5 (fNew (fCons (fC (.str "a")) (fCons (fC (.str "b")) (fCons (fC (.str "c")) (fCons (fC (.str "d")) fNil))))))
    (sSeq (sAsg (tgTup 2 (tgCons (tgName 10) (tgCons (tgName 11) tgNil))) (fTup (fCons (fC (.int 0)) (fCons (fC (.bl false)) fNil))))
    (sSeq (sFor (fI kRng1 (fCons (fN gMax (fCons (fC (.int 1)) (fCons (fN gMin (fCons (fC (.int 16)) (fCons (fN gLen (fCons (fV 0) fNil)) fNil))) fNil))) fNil)) (tgName 4) b_law_2)
    (sFreeze 5 (sSeq (sExpr (fMeth "Panel" "wait" 2 m_Panel_wait (fMeth "Guard" "shown" 1 m_Guard_shown (fV 7) fNil) (fCons (f2 gAdd (fV 10) (fC (.int 50))) fNil)))
    (sSeq (sIf (fOr (fB (f2 gGt (fMeth "Panel" "clock" 1 m_Panel_clock (fMeth "Guard" "shown" 1 m_Guard_shown (fV 7) fNil) fNil) (fV 10))) (fOr (fB (f2 (gEq true) (fMeth "Guard" "names" 1 m_Guard_names (fV 8) fNil) (fLst fNil))) (fB (f2 (gEq true) (fMeth "Panel" "log" 1 m_Panel_log (fMeth "Guard" "shown" 1 m_Guard_shown (fV 8) fNil) fNil) (fLst fNil))))) (sRet (fC (.bl false))) sNil)
    (sSeq (sSet 6 (fN gSum (fCons (fFrz (fComp (fItems (fC (.str "abcd"))) (tgName 12) fYes (fN gLen (fCons (fMeth "Guard" "done_by" 2 m_Guard_done_by (fV 7) (fCons (fV 12) fNil)) fNil)) [12])) fNil)))
    (sRet (vAnd (f2 (gEq false) (fV 6) (fN gLen (fCons (fMeth "Panel" "log" 1 m_Panel_log (fMeth "Guard" "shown" 1 m_Guard_shown (fV 7) fNil) fNil) fNil))) (f2 (gEq false) (fMeth "Guard" "done_by" 2 m_Guard_done_by (fV 8) (fCons (fC (.str "a")) fNil)) (fLst fNil)))))))))))))))))
def m_law : List D → Store → Res D := mOf 18 g_law
end BW
namespace BW
open PySem PySem.Spec PyProof.Rows L2
def topS (i : Nat) : Stmt := PySem.Challenge.pw_boltwatch_k51_whole_guards.main.body.getD i (.Pass ⟨0, 0, 0, 0⟩)
def YS : List Str := ["NotOff", "NoRight", "Locked", "Wrong", "Ajar", "NotSet"]
structure Ct (K : PySem.W.Frag) (mg : Str → Option Value) (cl : Str → Addr) : Prop where
  c_LETTERS : ∃ t, mg "LETTERS" = some (.str "abcdefghijklmnopqrstuvwxyz" t)
  c_FIGURES : ∃ t, mg "FIGURES" = some (.str "0123456789" t)
  c_RIGHTS : ∃ a, mg "RIGHTS" = some (.ref a) ∧ ∀ w, R K w (.ref a) (.tup [(.str "lift"), (.str "set")])
  c_HOWS : ∃ a, mg "HOWS" = some (.ref a) ∧ ∀ w, R K w (.ref a) (.tup [(.str "soon"), (.str "late"), (.str "after"), (.str "ever")])
  c_MOST_ROOMS : ∃ t, mg "MOST_ROOMS" = some (.int 6 t)
  c_MOST_DOORS : ∃ t, mg "MOST_DOORS" = some (.int 10 t)
  c_MOST_EYES : ∃ t, mg "MOST_EYES" = some (.int 12 t)
  c_MOST_MODES : ∃ t, mg "MOST_MODES" = some (.int 3 t)
  x_BoltError : XcOk K mg cl "BoltError"
  x_NoHouse : XcOk K mg cl "NoHouse"
  x_NoMode : XcOk K mg cl "NoMode"
  x_NoEye : XcOk K mg cl "NoEye"
  x_NoTime : XcOk K mg cl "NoTime"
  x_NotOff : XcOk K mg cl "NotOff"
  x_Ajar : XcOk K mg cl "Ajar"
  x_NotSet : XcOk K mg cl "NotSet"
  x_NoName : XcOk K mg cl "NoName"
  x_NoCode : XcOk K mg cl "NoCode"
  x_NoRight : XcOk K mg cl "NoRight"
  x_Taken : XcOk K mg cl "Taken"
  x_Wrong : XcOk K mg cl "Wrong"
  x_Locked : XcOk K mg cl "Locked"
  ec : ∀ c ∈ XS, ExcC K (cl c)
  isa : ∀ c ∈ XS, ∀ d ∈ YS, PySem.W.kitOne K (.ref (cl c)) (.ref (cl d)) = some (isaX c d)
  isv : ∀ c ∈ XS, PySem.W.kitOne K (.ref (cl c)) (.type "ValueError") = some true
  exm : ∀ c ∈ XS, PySem.W.exmOne K (.ref (cl c)) (.ref (cl "BoltError")) = some true
  noVE : mg "ValueError" = none
  k_Codes : ClsOk K cl "Codes" ["tries", "rest", "rows", "misses", "since", "shut", "last"]
  k_Stand : ClsOk K cl "Stand" ["word", "end", "mode", "without", "wide", "last", "rings", "cause", "rows"]
  k_Panel : ClsOk K cl "Panel" ["house", "leaving", "entering", "ringing", "here", "gone", "coming"]
  k_Guard : ClsOk K cl "Guard" ["panel", "codes", "acts"]
  triv : True
section
variable {P : Program} {w : World} {K : PySem.W.Frag} {mg : Str → Option Value} {base : Heap} {cl : Str → Addr}
abbrev st_law_cell : Stmt := topS 47
abbrev nm_law_cell : List Str := ["script", "k"]
def ss_law_cell : Scope := scp [(("script" : Str), NameKind.local), (("k" : Str), NameKind.local), (("len" : Str), NameKind.globalImplicit)] []
theorem sc_law_cell : FnScope nm_law_cell ["script", "k"] ss_law_cell := ⟨rfl, rfl, rfl, by decide +kernel, rfl, by decide +kernel, by decide +kernel⟩
theorem fn_law_cell {f : Addr} {fd : FuncData} (F : Fun K "_law_cell" "_law_cell" st_law_cell f fd) (B : Bt mg) (C : Ct K mg cl) : FnOk P w K mg base (L2.CX P w) 1 f fd ["script", "k"] (spM K cl 2 m_law_cell) :=
  Fun.fn (k := 0) (g := g_law_cell) F (by rfl) (sc := ss_law_cell) (by rfl) (by rfl) sc_law_cell fun cdv A outer s H E e hr => by
    refine dss_cons ?_ ?_
    · refine ds_if ?_ ?_ ?_
      · exact (dt_cmp (o_eq (u64 hr)) (de_v 0 (pv 0)) (de_lst da_nil) (nomark _))
      · refine dss_one ?_
        refine ds_ret ?_
        exact (de_bin o_mulX de_int (de_v 1 (pv 1)))
      · exact dss_nil
    refine dss_one ?_
    refine ds_ret ?_
    exact (de_bin o_add (de_ix (u1 hr) (de_v 0 (pv 0)) (de_bin o_mod (de_v 1 (pv 1)) (de_callB c_len (by exact rfl) B.len bb_len (da_cons (de_v 0 (pv 0)) da_nil)))) (de_bin o_mulX de_int (de_bin o_fdiv (de_v 1 (pv 1)) (de_callB c_len (by exact rfl) B.len bb_len (da_cons (de_v 0 (pv 0)) da_nil)))))
theorem ok_law_cell {f : Addr} {fd : FuncData} (F : Fun K "_law_cell" "_law_cell" st_law_cell f fd) (hb : Binds K fd ["script", "k"] []) (hm : mg "_law_cell" = some (.ref f)) (B : Bt mg) (C : Ct K mg cl) : Df P w K mg base cl 1 "_law_cell" ["script", "k"] m_law_cell :=
  ⟨f, fd, fn_law_cell F B C, hm, F.kp, hb⟩
abbrev st_law_drawn : Stmt := topS 48
abbrev nm_law_drawn : List Str := ["script", "k", "many", "cell"]
def ss_law_drawn : Scope := scp [(("script" : Str), NameKind.local), (("k" : Str), NameKind.local), (("many" : Str), NameKind.local), (("cell" : Str), NameKind.local), (("_law_cell" : Str), NameKind.globalImplicit)] []
theorem sc_law_drawn : FnScope nm_law_drawn ["script", "k", "many"] ss_law_drawn := ⟨rfl, rfl, rfl, by decide +kernel, rfl, by decide +kernel, by decide +kernel⟩
theorem fn_law_drawn {f : Addr} {fd : FuncData} (F : Fun K "_law_drawn" "_law_drawn" st_law_drawn f fd) (B : Bt mg) (C : Ct K mg cl) (d_law_cell : Df P w K mg base cl 1 "_law_cell" ["script", "k"] m_law_cell) : FnOk P w K mg base (L2.CX P w) 2 f fd ["script", "k", "many"] (spM K cl 3 m_law_drawn) :=
  Fun.fn (k := 1) (g := g_law_drawn) F (by rfl) (sc := ss_law_drawn) (by rfl) (by rfl) sc_law_drawn fun cdv A outer s H E e hr => by
    refine dss_cons ?_ ?_
    · refine ds_set (i := 3) sc_law_drawn.nd (by exact rfl) (by exact (Or.inl rfl)) ?_
      exact (de_bin o_mod (de_bin o_add (de_bin o_mulX (de_bin o_mod (de_call d_law_cell hr (by decide) (by exact rfl) (by exact takes_of rfl rfl rfl rfl) (da_cons (de_v 0 (pv 0)) (da_cons (de_v 1 (pv 1)) da_nil))) de_int) de_int) (de_bin o_mulX de_int (de_bin o_add (de_v 1 (pv 1)) de_int))) de_int)
    refine dss_cons ?_ ?_
    · refine ds_set (i := 3) sc_law_drawn.nd (by exact rfl) (by exact (Or.inl rfl)) ?_
      exact (de_bin o_mod (de_bin o_add (de_bin o_mulX (de_v 3 (pv 3)) (de_v 3 (pv 3))) (de_bin o_fdiv (de_v 3 (pv 3)) de_int)) de_int)
    refine dss_one ?_
    refine ds_ret ?_
    exact (de_bin o_mod (de_bin o_fdiv (de_bin o_mod (de_bin o_add (de_bin o_mulX (de_v 3 (pv 3)) (de_v 3 (pv 3))) (de_bin o_fdiv (de_v 3 (pv 3)) de_int)) de_int) de_int) (de_v 2 (pv 2)))
theorem ok_law_drawn {f : Addr} {fd : FuncData} (F : Fun K "_law_drawn" "_law_drawn" st_law_drawn f fd) (hb : Binds K fd ["script", "k", "many"] []) (hm : mg "_law_drawn" = some (.ref f)) (B : Bt mg) (C : Ct K mg cl) (d_law_cell : Df P w K mg base cl 1 "_law_cell" ["script", "k"] m_law_cell) : Df P w K mg base cl 2 "_law_drawn" ["script", "k", "many"] m_law_drawn :=
  ⟨f, fd, fn_law_drawn F B C d_law_cell, hm, F.kp, hb⟩
abbrev st_law_doors : Stmt := topS 49
abbrev nm_law_doors : List Str := ["script", "at", "many", "found", "other", "k", "one"]
def ss_law_doors : Scope := scp [(("script" : Str), NameKind.local), (("at" : Str), NameKind.local), (("many" : Str), NameKind.local), (("found" : Str), NameKind.local), (("other" : Str), NameKind.local), (("k" : Str), NameKind.local), (("one" : Str), NameKind.local), (("range" : Str), NameKind.globalImplicit), (("_law_drawn" : Str), NameKind.globalImplicit), (("min" : Str), NameKind.globalImplicit), (("max" : Str), NameKind.globalImplicit), (("tuple" : Str), NameKind.globalImplicit), (("sorted" : Str), NameKind.globalImplicit), (("set" : Str), NameKind.globalImplicit)] []
theorem sc_law_doors : FnScope nm_law_doors ["script", "at", "many"] ss_law_doors := ⟨rfl, rfl, rfl, by decide +kernel, rfl, by decide +kernel, by decide +kernel⟩
theorem fn_law_doors {f : Addr} {fd : FuncData} (F : Fun K "_law_doors" "_law_doors" st_law_doors f fd) (B : Bt mg) (C : Ct K mg cl) (d_law_drawn : Df P w K mg base cl 2 "_law_drawn" ["script", "k", "many"] m_law_drawn) : FnOk P w K mg base (L2.CX P w) 3 f fd ["script", "at", "many"] (spM K cl 3 m_law_doors) :=
  Fun.fn (k := 2) (g := g_law_doors) F (by rfl) (sc := ss_law_doors) (by rfl) (by rfl) sc_law_doors fun cdv A outer s H E e hr => by
    refine dss_cons ?_ ?_
    · refine ds_setOwn (i := 3) sc_law_doors.nd (by exact rfl) (by exact (Or.inl rfl)) ?_
      exact (dl_new da_nil)
    refine dss_cons ?_ ?_
    · refine ds_for (b := false) (by exact passes_of rfl) (by exact rfl) ?_ ?_ ?_
      · exact (di_rng2 (by exact rfl) B.range (da_cons de_int (da_cons (de_v 2 (pv 2)) da_nil)))
      · exact (dg_name (i := 4) sc_law_doors.nd (by exact rfl) (by exact (Or.inl rfl)))
      · refine dss_one ?_
        refine ds_if ?_ ?_ ?_
        · exact (dt_cmp o_gt (de_call d_law_drawn hr (by decide) (by exact rfl) (by exact takes_of rfl rfl rfl rfl) (da_cons (de_v 0 (pv 0)) (da_cons (de_bin o_add (de_v 1 (pv 1)) (de_v 4 (pv 4))) (da_cons de_int da_nil)))) de_int (nomark _))
        · refine dss_one ?_
          refine ds_append (pv 3) ?_
          exact (da_cons (de_tup (da_cons (de_call d_law_drawn hr (by decide) (by exact rfl) (by exact takes_of rfl rfl rfl rfl) (da_cons (de_v 0 (pv 0)) (da_cons (de_bin o_add (de_bin o_add (de_v 1 (pv 1)) de_int) (de_v 4 (pv 4))) (da_cons (de_v 4 (pv 4)) da_nil)))) (da_cons (de_v 4 (pv 4)) da_nil))) da_nil)
        · exact dss_nil
    refine dss_cons ?_ ?_
    · refine ds_for (b := false) (by exact passes_of rfl) (by exact rfl) ?_ ?_ ?_
      · exact (di_rng1 (by exact rfl) B.range (da_cons (de_call d_law_drawn hr (by decide) (by exact rfl) (by exact takes_of rfl rfl rfl rfl) (da_cons (de_v 0 (pv 0)) (da_cons (de_v 1 (pv 1)) (da_cons de_int da_nil)))) da_nil))
      · exact (dg_name (i := 5) sc_law_doors.nd (by exact rfl) (by exact (Or.inl rfl)))
      · refine dss_cons ?_ ?_
        · refine ds_set (i := 6) sc_law_doors.nd (by exact rfl) (by exact (Or.inl rfl)) ?_
          exact (de_call d_law_drawn hr (by decide) (by exact rfl) (by exact takes_of rfl rfl rfl rfl) (da_cons (de_v 0 (pv 0)) (da_cons (de_bin o_add (de_bin o_add (de_v 1 (pv 1)) de_int) (de_bin o_mulX de_int (de_v 5 (pv 5)))) (da_cons (de_v 2 (pv 2)) da_nil))))
        refine dss_cons ?_ ?_
        · refine ds_set (i := 4) sc_law_doors.nd (by exact rfl) (by exact (Or.inl rfl)) ?_
          exact (de_call d_law_drawn hr (by decide) (by exact rfl) (by exact takes_of rfl rfl rfl rfl) (da_cons (de_v 0 (pv 0)) (da_cons (de_bin o_add (de_bin o_add (de_v 1 (pv 1)) de_int) (de_bin o_mulX de_int (de_v 5 (pv 5)))) (da_cons (de_v 2 (pv 2)) da_nil))))
        refine dss_one ?_
        refine ds_if ?_ ?_ ?_
        · exact (dt_cmp (o_ne (u64 hr)) (de_v 6 (pv 6)) (de_v 4 (pv 4)) (nomark _))
        · refine dss_one ?_
          refine ds_append (pv 3) ?_
          exact (da_cons (de_tup (da_cons (de_callB (c_min (by exact rfl)) (by exact rfl) B.min bb_min (da_cons (de_v 6 (pv 6)) (da_cons (de_v 4 (pv 4)) da_nil))) (da_cons (de_callB (c_max (by exact rfl)) (by exact rfl) B.max bb_max (da_cons (de_v 6 (pv 6)) (da_cons (de_v 4 (pv 4)) da_nil))) da_nil))) da_nil)
        · exact dss_nil
    refine dss_freeze 3 ?_
    refine dss_one ?_
    refine ds_ret ?_
    exact (de_callTy c_tuple (by exact rfl) B.tuple bb_tuple (da_cons (de_sortedSet (by exact rfl) (u64 hr) (by exact rfl) B.sorted (by exact rfl) B.set (da_cons (de_v 3 (pv 3)) da_nil)) da_nil))
theorem ok_law_doors {f : Addr} {fd : FuncData} (F : Fun K "_law_doors" "_law_doors" st_law_doors f fd) (hb : Binds K fd ["script", "at", "many"] []) (hm : mg "_law_doors" = some (.ref f)) (B : Bt mg) (C : Ct K mg cl) (d_law_drawn : Df P w K mg base cl 2 "_law_drawn" ["script", "k", "many"] m_law_drawn) : Df P w K mg base cl 3 "_law_doors" ["script", "at", "many"] m_law_doors :=
  ⟨f, fd, fn_law_doors F B C d_law_drawn, hm, F.kp, hb⟩
abbrev st_law_house : Stmt := topS 50
abbrev nm_law_house : List Str := ["script", "at", "many", "doors", "places", "turn", "eyes", "modes", "k", "place", "how", "here", "number", "room", "eye"]
def ss_law_house : Scope := scp [(("script" : Str), NameKind.cell), (("at" : Str), NameKind.local), (("many" : Str), NameKind.local), (("doors" : Str), NameKind.local), (("places" : Str), NameKind.local), (("turn" : Str), NameKind.local), (("eyes" : Str), NameKind.local), (("k" : Str), NameKind.local), (("place" : Str), NameKind.local), (("how" : Str), NameKind.local), (("modes" : Str), NameKind.local), (("here" : Str), NameKind.cell), (("_law_drawn" : Str), NameKind.globalImplicit), (("_law_doors" : Str), NameKind.globalImplicit), (("range" : Str), NameKind.globalImplicit), (("len" : Str), NameKind.globalImplicit), (("enumerate" : Str), NameKind.globalImplicit), (("tuple" : Str), NameKind.globalImplicit)] [(("fast" : Str), Const.str "script"), (("fast" : Str), Const.str "at"), (("fast" : Str), Const.str "many"), (("fast" : Str), Const.str "doors"), (("fast" : Str), Const.str "number"), (("fast" : Str), Const.str "room"), (("fast" : Str), Const.str "places"), (("fast" : Str), Const.str "turn"), (("fast" : Str), Const.str "eyes"), (("fast" : Str), Const.str "k"), (("fast" : Str), Const.str "place"), (("fast" : Str), Const.str "how"), (("fast" : Str), Const.str "modes"), (("fast" : Str), Const.str "here"), (("fast" : Str), Const.str "eye")]
theorem sc_law_house : FnScope nm_law_house ["script", "at"] ss_law_house := ⟨rfl, rfl, rfl, by decide +kernel, rfl, by decide +kernel, by decide +kernel⟩
theorem fn_law_house {f : Addr} {fd : FuncData} (F : Fun K "_law_house" "_law_house" st_law_house f fd) (B : Bt mg) (C : Ct K mg cl) (d_law_drawn : Df P w K mg base cl 2 "_law_drawn" ["script", "k", "many"] m_law_drawn) (d_law_doors : Df P w K mg base cl 3 "_law_doors" ["script", "at", "many"] m_law_doors) : FnOk P w K mg base (L2.CX P w) 4 f fd ["script", "at"] (spM K cl 2 m_law_house) :=
  Fun.fn (k := 3) (g := g_law_house) F (by rfl) (sc := ss_law_house) (by rfl) (by rfl) sc_law_house fun cdv A outer s H E e hr => by
    refine dss_cons ?_ ?_
    · refine ds_set (i := 2) sc_law_house.nd (by exact rfl) (by exact (Or.inl rfl)) ?_
      exact (de_bin o_add de_int (de_call d_law_drawn hr (by decide) (by exact rfl) (by exact takes_of rfl rfl rfl rfl) (da_cons (de_v 0 (pv 0)) (da_cons (de_v 1 (pv 1)) (da_cons de_int da_nil)))))
    refine dss_cons ?_ ?_
    · refine ds_set (i := 3) sc_law_house.nd (by exact rfl) (by exact (Or.inl rfl)) ?_
      exact (de_call d_law_doors hr (by decide) (by exact rfl) (by exact takes_of rfl rfl rfl rfl) (da_cons (de_v 0 (pv 0)) (da_cons (de_bin o_add (de_v 1 (pv 1)) de_int) (da_cons (de_v 2 (pv 2)) da_nil))))
    refine dss_cons ?_ ?_
    · refine ds_set (i := 4) sc_law_house.nd (by exact rfl) (by exact (Or.inl rfl)) ?_
      exact (de_bin o_add (DL.de (dl_comp (by exact rfl) sc_law_house.nd (di_rng1 (by exact rfl) B.range (da_cons (de_callB c_len (by exact rfl) B.len bb_len (da_cons (de_v 3 (pv 3)) da_nil)) da_nil)) (by exact blkOk_by (N := nm_law_house) (sc := ss_law_house) (own := [("number", 12)]) (by decide +kernel)) (fun _ _ _ _ _ => (eg_name (i := 12) (by decide) sc_law_house.nd (by exact rfl) (by first | exact Or.inl rfl | exact Or.inr rfl))) (fun _ _ _ _ _ => dts_nil) (fun _ _ _ _ _ => (de_tup (da_cons de_str (da_cons (de_v 12 (pv 12)) da_nil)))))) (DL.de (dl_comp (by exact rfl) sc_law_house.nd (di_rng2 (by exact rfl) B.range (da_cons de_int (da_cons (de_v 2 (pv 2)) da_nil))) (by exact blkOk_by (N := nm_law_house) (sc := ss_law_house) (own := [("room", 13)]) (by decide +kernel)) (fun _ _ _ _ _ => (eg_name (i := 13) (by decide) sc_law_house.nd (by exact rfl) (by first | exact Or.inl rfl | exact Or.inr rfl))) (fun _ _ _ _ _ => dts_nil) (fun _ _ _ _ _ => (de_tup (da_cons de_str (da_cons (de_v 13 (pv 13)) da_nil)))))))
    refine dss_cons ?_ ?_
    · refine ds_set (i := 5) sc_law_house.nd (by exact rfl) (by exact (Or.inl rfl)) ?_
      exact (de_call d_law_drawn hr (by decide) (by exact rfl) (by exact takes_of rfl rfl rfl rfl) (da_cons (de_v 0 (pv 0)) (da_cons (de_bin o_add (de_v 1 (pv 1)) de_int) (da_cons (de_callB c_len (by exact rfl) B.len bb_len (da_cons (de_v 4 (pv 4)) da_nil)) da_nil))))
    refine dss_cons ?_ ?_
    · refine ds_setOwn (i := 6) sc_law_house.nd (by exact rfl) (by exact (Or.inl rfl)) ?_
      exact (dl_new da_nil)
    refine dss_cons ?_ ?_
    · refine ds_for (b := true) (by exact passes_of rfl) (by exact rfl) ?_ ?_ ?_
      · exact (di_enum (by exact rfl) B.enumerate (da_cons (de_bin o_add (de_cut (de_v 4 (pv 4)) (do_some (de_v 5 (pv 5))) do_none) (de_cut (de_v 4 (pv 4)) do_none (do_some (de_v 5 (pv 5))))) da_nil))
      · exact (dg_tup (by exact rfl) (dgs_cons (dg_name (i := 8) sc_law_house.nd (by exact rfl) (by exact (Or.inl rfl))) (dgs_cons (dg_name (i := 9) sc_law_house.nd (by exact rfl) (by exact (Or.inl rfl))) dgs_nil)))
      · refine dss_cons ?_ ?_
        · refine ds_set (i := 10) sc_law_house.nd (by exact rfl) (by exact (Or.inl rfl)) ?_
          exact (de_ix (u1 hr) (de_lst (da_cons de_str (da_cons de_str (da_cons de_str (da_cons de_str (da_cons de_str (da_cons de_str da_nil))))))) (de_call d_law_drawn hr (by decide) (by exact rfl) (by exact takes_of rfl rfl rfl rfl) (da_cons (de_v 0 (pv 0)) (da_cons (de_bin o_add (de_bin o_add (de_v 1 (pv 1)) de_int) (de_bin o_mulX de_int (de_v 8 (pv 8)))) (da_cons de_int da_nil)))))
        refine dss_one ?_
        refine ds_if ?_ ?_ ?_
        · exact (DW.pt (dw_and (dt_cmp o_gt (de_call d_law_drawn hr (by decide) (by exact rfl) (by exact takes_of rfl rfl rfl rfl) (da_cons (de_v 0 (pv 0)) (da_cons (de_bin o_add (de_bin o_add (de_v 1 (pv 1)) de_int) (de_bin o_mulX de_int (de_v 8 (pv 8)))) (da_cons de_int da_nil)))) de_int (nomark _)) (dw_and1 (dt_cmp (o_lt (u64 hr)) (de_lenOwn (pv 6) (by exact rfl) B.len) de_int (nomark _)))))
        · refine dss_one ?_
          refine ds_append (pv 6) ?_
          exact (da_cons (de_bin o_add (de_v 9 (pv 9)) (de_tup (da_cons (de_v 10 (pv 10)) da_nil))) da_nil)
        · exact dss_nil
    refine dss_freeze 6 ?_
    refine dss_cons ?_ ?_
    · refine ds_setOwn (i := 7) sc_law_house.nd (by exact rfl) (by exact (Or.inl rfl)) ?_
      exact (dl_new da_nil)
    refine dss_cons ?_ ?_
    · refine ds_for (b := false) (by exact passes_of rfl) (by exact rfl) ?_ ?_ ?_
      · exact (di_rng1 (by exact rfl) B.range (da_cons (de_bin o_add de_int (de_call d_law_drawn hr (by decide) (by exact rfl) (by exact takes_of rfl rfl rfl rfl) (da_cons (de_v 0 (pv 0)) (da_cons (de_bin o_add (de_v 1 (pv 1)) de_int) (da_cons de_int da_nil))))) da_nil))
      · exact (dg_name (i := 8) sc_law_house.nd (by exact rfl) (by exact (Or.inl rfl)))
      · refine dss_cons ?_ ?_
        · refine ds_set (i := 11) sc_law_house.nd (by exact rfl) (by exact (Or.inr rfl)) ?_
          exact (de_bin o_add (de_bin o_add (de_v 1 (pv 1)) de_int) (de_bin o_mulX de_int (de_v 8 (pv 8))))
        refine dss_one ?_
        refine ds_append (pv 7) ?_
        exact (da_cons (de_callTy c_tuple (by exact rfl) B.tuple bb_tuple (da_cons (DL.de (dl_comp (by exact rfl) sc_law_house.nd (di_rng1 (by exact rfl) B.range (da_cons (de_callB c_len (by exact rfl) B.len bb_len (da_cons (de_v 6 (pv 6)) da_nil)) da_nil)) (by exact blkOk_by (N := nm_law_house) (sc := ss_law_house) (own := [("eye", 14)]) (by decide +kernel)) (fun _ _ _ _ _ => (eg_name (i := 14) (by decide) sc_law_house.nd (by exact rfl) (by first | exact Or.inl rfl | exact Or.inr rfl))) (fun _ _ _ _ _ => (dts_one (dt_cmp o_gt (de_call d_law_drawn hr (by decide) (by exact rfl) takes0 (da_cons (de_v 0 (pv 0)) (da_cons (de_bin o_add (de_v 11 (pv 11)) (de_v 14 (pv 14))) (da_cons de_int da_nil)))) de_int (nomark _)))) (fun _ _ _ _ _ => (de_v 14 (pv 14))))) da_nil)) da_nil)
    refine dss_freeze 7 ?_
    refine dss_one ?_
    refine ds_ret ?_
    exact (de_tup (da_cons (de_v 2 (pv 2)) (da_cons (de_v 3 (pv 3)) (da_cons (de_callTy c_tuple (by exact rfl) B.tuple bb_tuple (da_cons (de_v 6 (pv 6)) da_nil)) (da_cons (de_callTy c_tuple (by exact rfl) B.tuple bb_tuple (da_cons (de_v 7 (pv 7)) da_nil)) da_nil)))))
theorem ok_law_house {f : Addr} {fd : FuncData} (F : Fun K "_law_house" "_law_house" st_law_house f fd) (hb : Binds K fd ["script", "at"] []) (hm : mg "_law_house" = some (.ref f)) (B : Bt mg) (C : Ct K mg cl) (d_law_drawn : Df P w K mg base cl 2 "_law_drawn" ["script", "k", "many"] m_law_drawn) (d_law_doors : Df P w K mg base cl 3 "_law_doors" ["script", "at", "many"] m_law_doors) : Df P w K mg base cl 4 "_law_house" ["script", "at"] m_law_house :=
  ⟨f, fd, fn_law_house F B C d_law_drawn d_law_doors, hm, F.kp, hb⟩
abbrev st_is_number : Stmt := topS 30
abbrev nm_is_number : List Str := ["thing", "low", "high"]
def ss_is_number : Scope := scp [(("thing" : Str), NameKind.local), (("low" : Str), NameKind.local), (("high" : Str), NameKind.local), (("isinstance" : Str), NameKind.globalImplicit), (("int" : Str), NameKind.globalImplicit), (("bool" : Str), NameKind.globalImplicit)] []
theorem sc_is_number : FnScope nm_is_number ["thing", "low", "high"] ss_is_number := ⟨rfl, rfl, rfl, by decide +kernel, rfl, by decide +kernel, by decide +kernel⟩
theorem fn_is_number {f : Addr} {fd : FuncData} (F : Fun K "is_number" "is_number" st_is_number f fd) (B : Bt mg) (C : Ct K mg cl) : FnOk P w K mg base (L2.CX P w) 1 f fd ["thing", "low", "high"] (spM K cl 3 m_is_number) :=
  Fun.fn (k := 0) (g := g_is_number) F (by rfl) (sc := ss_is_number) (by rfl) (by rfl) sc_is_number fun cdv A outer s H E e hr => by
    refine dss_one ?_
    refine ds_ret ?_
    exact (de_and (de_isi isT_int (de_v 0 (pv 0)) (by exact rfl) B.isinstance (by exact rfl) B.int bb_int) (de_and (de_not (de_isi isT_bool (de_v 0 (pv 0)) (by exact rfl) B.isinstance (by exact rfl) B.bool bb_bool)) (de_one (de_chain o_le o_le (de_v 1 (pv 1)) (de_v 0 (pv 0)) (de_v 2 (pv 2))))))
theorem ok_is_number {f : Addr} {fd : FuncData} (F : Fun K "is_number" "is_number" st_is_number f fd) (hb : Binds K fd ["thing", "low", "high"] []) (hm : mg "is_number" = some (.ref f)) (B : Bt mg) (C : Ct K mg cl) : Df P w K mg base cl 1 "is_number" ["thing", "low", "high"] m_is_number :=
  ⟨f, fd, fn_is_number F B C, hm, F.kp, hb⟩
abbrev st_is_eye : Stmt := topS 33
abbrev nm_is_eye : List Str := ["thing", "many", "doors"]
def ss_is_eye : Scope := scp [(("thing" : Str), NameKind.local), (("many" : Str), NameKind.local), (("doors" : Str), NameKind.local), (("isinstance" : Str), NameKind.globalImplicit), (("tuple" : Str), NameKind.globalImplicit), (("len" : Str), NameKind.globalImplicit), (("str" : Str), NameKind.globalImplicit), (("HOWS" : Str), NameKind.globalImplicit), (("is_number" : Str), NameKind.globalImplicit)] []
theorem sc_is_eye : FnScope nm_is_eye ["thing", "many", "doors"] ss_is_eye := ⟨rfl, rfl, rfl, by decide +kernel, rfl, by decide +kernel, by decide +kernel⟩
theorem fn_is_eye {f : Addr} {fd : FuncData} (F : Fun K "is_eye" "is_eye" st_is_eye f fd) (B : Bt mg) (C : Ct K mg cl) (d_is_number : Df P w K mg base cl 1 "is_number" ["thing", "low", "high"] m_is_number) : FnOk P w K mg base (L2.CX P w) 2 f fd ["thing", "many", "doors"] (spM K cl 3 m_is_eye) :=
  Fun.fn (k := 1) (g := g_is_eye) F (by rfl) (sc := ss_is_eye) (by rfl) (by rfl) sc_is_eye fun cdv A outer s H E e hr => by
    refine dss_cons ?_ ?_
    · refine ds_if ?_ ?_ ?_
      · exact (DW.pt (dw_or (dt_not (dt_val (de_isi isT_tup (de_v 0 (pv 0)) (by exact rfl) B.isinstance (by exact rfl) B.tuple bb_tuple))) (dw_or (dt_cmp (o_ne (u64 hr)) (de_callB c_len (by exact rfl) B.len bb_len (da_cons (de_v 0 (pv 0)) da_nil)) de_int (nomark _)) (dw_or (dt_not (dt_val (de_isi isT_str (de_ix (u1 hr) (de_v 0 (pv 0)) de_int) (by exact rfl) B.isinstance (by exact rfl) B.str bb_str))) (dw_or1 (dt_cmp (o_notinX (u65 hr)) (de_ix (u1 hr) (de_v 0 (pv 0)) de_int) (de_gtup' (by exact rfl) C.c_HOWS) (by exact rfl)))))))
      · refine dss_one ?_
        refine ds_ret ?_
        exact de_bl
      · exact dss_nil
    refine dss_cons ?_ ?_
    · refine ds_if ?_ ?_ ?_
      · exact (dt_cmp (o_eq (u64 hr)) (de_ix (u1 hr) (de_v 0 (pv 0)) de_int) de_str (nomark _))
      · refine dss_one ?_
        refine ds_ret ?_
        exact (de_call d_is_number hr (by decide) (by exact rfl) (by exact takes_of rfl rfl rfl rfl) (da_cons (de_ix (u1 hr) (de_v 0 (pv 0)) de_int) (da_cons de_int (da_cons (de_bin o_sub (de_callB c_len (by exact rfl) B.len bb_len (da_cons (de_v 2 (pv 2)) da_nil)) de_int) da_nil))))
      · exact dss_nil
    refine dss_one ?_
    refine ds_ret ?_
    exact (de_and (de_cmp (o_eq (u64 hr)) (de_ix (u1 hr) (de_v 0 (pv 0)) de_int) de_str (nomark _)) (de_one (de_call d_is_number hr (by decide) (by exact rfl) (by exact takes_of rfl rfl rfl rfl) (da_cons (de_ix (u1 hr) (de_v 0 (pv 0)) de_int) (da_cons de_int (da_cons (de_bin o_sub (de_v 1 (pv 1)) de_int) da_nil))))))
theorem ok_is_eye {f : Addr} {fd : FuncData} (F : Fun K "is_eye" "is_eye" st_is_eye f fd) (hb : Binds K fd ["thing", "many", "doors"] []) (hm : mg "is_eye" = some (.ref f)) (B : Bt mg) (C : Ct K mg cl) (d_is_number : Df P w K mg base cl 1 "is_number" ["thing", "low", "high"] m_is_number) : Df P w K mg base cl 2 "is_eye" ["thing", "many", "doors"] m_is_eye :=
  ⟨f, fd, fn_is_eye F B C d_is_number, hm, F.kp, hb⟩
abbrev st_are_eyes : Stmt := topS 34
abbrev nm_are_eyes : List Str := ["thing", "many", "doors", "one"]
def ss_are_eyes : Scope := scp [(("thing" : Str), NameKind.local), (("many" : Str), NameKind.cell), (("doors" : Str), NameKind.cell), (("isinstance" : Str), NameKind.globalImplicit), (("tuple" : Str), NameKind.globalImplicit), (("len" : Str), NameKind.globalImplicit), (("MOST_EYES" : Str), NameKind.globalImplicit), (("all" : Str), NameKind.globalImplicit), (("set" : Str), NameKind.globalImplicit)] [(("fast" : Str), Const.str "thing"), (("fast" : Str), Const.str "many"), (("fast" : Str), Const.str "doors"), (("fast" : Str), Const.str "one")]
theorem sc_are_eyes : FnScope nm_are_eyes ["thing", "many", "doors"] ss_are_eyes := ⟨rfl, rfl, rfl, by decide +kernel, rfl, by decide +kernel, by decide +kernel⟩
theorem fn_are_eyes {f : Addr} {fd : FuncData} (F : Fun K "are_eyes" "are_eyes" st_are_eyes f fd) (B : Bt mg) (C : Ct K mg cl) (d_is_eye : Df P w K mg base cl 2 "is_eye" ["thing", "many", "doors"] m_is_eye) : FnOk P w K mg base (L2.CX P w) 3 f fd ["thing", "many", "doors"] (spM K cl 3 m_are_eyes) :=
  Fun.fn (k := 2) (g := g_are_eyes) F (by rfl) (sc := ss_are_eyes) (by rfl) (by rfl) sc_are_eyes fun cdv A outer s H E e hr => by
    refine dss_cons ?_ ?_
    · refine ds_if ?_ ?_ ?_
      · exact (DW.pt (dw_or (dt_not (dt_val (de_isi isT_tup (de_v 0 (pv 0)) (by exact rfl) B.isinstance (by exact rfl) B.tuple bb_tuple))) (dw_or (dt_cmp o_gt (de_callB c_len (by exact rfl) B.len bb_len (da_cons (de_v 0 (pv 0)) da_nil)) (de_gint' (by exact rfl) C.c_MOST_EYES) (nomark _)) (dw_or1 (dt_not (dt_val (de_callB (c_all (by exact rfl)) (by exact rfl) B.all bb_all (da_cons (DL.de (dl_comp (by exact rfl) sc_are_eyes.nd (di_seq (de_v 0 (pv 0))) (by exact blkOk_by (N := nm_are_eyes) (sc := ss_are_eyes) (own := [("one", 3)]) (by decide +kernel)) (fun _ _ _ _ _ => (eg_name (i := 3) (by decide) sc_are_eyes.nd (by exact rfl) (by first | exact Or.inl rfl | exact Or.inr rfl))) (fun _ _ _ _ _ => dts_nil) (fun _ _ _ _ _ => (de_call d_is_eye hr (by decide) (by exact rfl) takes0 (da_cons (de_v 3 (pv 3)) (da_cons (de_v 1 (pv 1)) (da_cons (de_v 2 (pv 2)) da_nil))))))) da_nil))))))))
      · refine dss_one ?_
        refine ds_ret ?_
        exact de_bl
      · exact dss_nil
    refine dss_one ?_
    refine ds_ret ?_
    exact (de_cmp (o_eq (u64 hr)) (de_lenSet (by exact rfl) (u64 hr) (by exact rfl) B.len (by exact rfl) B.set (da_cons (DL.de (dl_comp (by exact rfl) sc_are_eyes.nd (di_seq (de_v 0 (pv 0))) (by exact blkOk_by (N := nm_are_eyes) (sc := ss_are_eyes) (own := [("one", 3)]) (by decide +kernel)) (fun _ _ _ _ _ => (eg_name (i := 3) (by decide) sc_are_eyes.nd (by exact rfl) (by first | exact Or.inl rfl | exact Or.inr rfl))) (fun _ _ _ _ _ => dts_nil) (fun _ _ _ _ _ => (de_cut (de_v 3 (pv 3)) do_none (do_some de_int))))) da_nil)) (de_callB c_len (by exact rfl) B.len bb_len (da_cons (de_v 0 (pv 0)) da_nil)) (nomark _))
theorem ok_are_eyes {f : Addr} {fd : FuncData} (F : Fun K "are_eyes" "are_eyes" st_are_eyes f fd) (hb : Binds K fd ["thing", "many", "doors"] []) (hm : mg "are_eyes" = some (.ref f)) (B : Bt mg) (C : Ct K mg cl) (d_is_eye : Df P w K mg base cl 2 "is_eye" ["thing", "many", "doors"] m_is_eye) : Df P w K mg base cl 3 "are_eyes" ["thing", "many", "doors"] m_are_eyes :=
  ⟨f, fd, fn_are_eyes F B C d_is_eye, hm, F.kp, hb⟩
abbrev st_do_rise : Stmt := topS 31
abbrev nm_do_rise : List Str := ["row", "one", "other"]
def ss_do_rise : Scope := scp [(("row" : Str), NameKind.local), (("all" : Str), NameKind.globalImplicit), (("zip" : Str), NameKind.globalImplicit)] [(("fast" : Str), Const.str "row"), (("fast" : Str), Const.str "one"), (("fast" : Str), Const.str "other")]
theorem sc_do_rise : FnScope nm_do_rise ["row"] ss_do_rise := ⟨rfl, rfl, rfl, by decide +kernel, rfl, by decide +kernel, by decide +kernel⟩
theorem fn_do_rise {f : Addr} {fd : FuncData} (F : Fun K "do_rise" "do_rise" st_do_rise f fd) (B : Bt mg) (C : Ct K mg cl) : FnOk P w K mg base (L2.CX P w) 1 f fd ["row"] (spM K cl 1 m_do_rise) :=
  Fun.fn (k := 0) (g := g_do_rise) F (by rfl) (sc := ss_do_rise) (by rfl) (by rfl) sc_do_rise fun cdv A outer s H E e hr => by
    refine dss_one ?_
    refine ds_ret ?_
    exact (de_callB (c_all (by exact rfl)) (by exact rfl) B.all bb_all (da_cons (DL.de (dl_comp (by exact rfl) sc_do_rise.nd (di_zip (by exact rfl) B.zip (da_cons (de_v 0 (pv 0)) (da_cons (de_cut (de_v 0 (pv 0)) (do_some de_int) do_none) da_nil))) (by exact blkOk_by (N := nm_do_rise) (sc := ss_do_rise) (own := [("one", 1), ("other", 2)]) (by decide +kernel)) (fun _ _ _ _ _ => (eg_tup (by exact rfl) (egs_cons (eg_name (i := 1) (by decide) sc_do_rise.nd (by exact rfl) (by first | exact Or.inl rfl | exact Or.inr rfl)) (egs_cons (eg_name (i := 2) (by decide) sc_do_rise.nd (by exact rfl) (by first | exact Or.inl rfl | exact Or.inr rfl)) egs_nil)))) (fun _ _ _ _ _ => dts_nil) (fun _ _ _ _ _ => (de_cmp (o_lt (u64 hr)) (de_v 1 (pv 1)) (de_v 2 (pv 2)) (nomark _))))) da_nil))
theorem ok_do_rise {f : Addr} {fd : FuncData} (F : Fun K "do_rise" "do_rise" st_do_rise f fd) (hb : Binds K fd ["row"] []) (hm : mg "do_rise" = some (.ref f)) (B : Bt mg) (C : Ct K mg cl) : Df P w K mg base cl 1 "do_rise" ["row"] m_do_rise :=
  ⟨f, fd, fn_do_rise F B C, hm, F.kp, hb⟩
abbrev st_are_doors : Stmt := topS 32
abbrev nm_are_doors : List Str := ["thing", "many", "door"]
def ss_are_doors : Scope := scp [(("thing" : Str), NameKind.local), (("many" : Str), NameKind.local), (("door" : Str), NameKind.local), (("isinstance" : Str), NameKind.globalImplicit), (("tuple" : Str), NameKind.globalImplicit), (("len" : Str), NameKind.globalImplicit), (("MOST_DOORS" : Str), NameKind.globalImplicit), (("is_number" : Str), NameKind.globalImplicit), (("do_rise" : Str), NameKind.globalImplicit)] []
theorem sc_are_doors : FnScope nm_are_doors ["thing", "many"] ss_are_doors := ⟨rfl, rfl, rfl, by decide +kernel, rfl, by decide +kernel, by decide +kernel⟩
theorem fn_are_doors {f : Addr} {fd : FuncData} (F : Fun K "are_doors" "are_doors" st_are_doors f fd) (B : Bt mg) (C : Ct K mg cl) (d_is_number : Df P w K mg base cl 1 "is_number" ["thing", "low", "high"] m_is_number) (d_do_rise : Df P w K mg base cl 1 "do_rise" ["row"] m_do_rise) : FnOk P w K mg base (L2.CX P w) 2 f fd ["thing", "many"] (spM K cl 2 m_are_doors) :=
  Fun.fn (k := 1) (g := g_are_doors) F (by rfl) (sc := ss_are_doors) (by rfl) (by rfl) sc_are_doors fun cdv A outer s H E e hr => by
    refine dss_cons ?_ ?_
    · refine ds_if ?_ ?_ ?_
      · exact (DW.pt (dw_or (dt_not (dt_val (de_isi isT_tup (de_v 0 (pv 0)) (by exact rfl) B.isinstance (by exact rfl) B.tuple bb_tuple))) (dw_or1 (dt_cmp o_gt (de_callB c_len (by exact rfl) B.len bb_len (da_cons (de_v 0 (pv 0)) da_nil)) (de_gint' (by exact rfl) C.c_MOST_DOORS) (nomark _)))))
      · refine dss_one ?_
        refine ds_ret ?_
        exact de_bl
      · exact dss_nil
    refine dss_cons ?_ ?_
    · refine ds_for (b := false) (by exact passes_of rfl) (by exact rfl) ?_ ?_ ?_
      · exact (di_seq (de_v 0 (pv 0)))
      · exact (dg_name (i := 2) sc_are_doors.nd (by exact rfl) (by exact (Or.inl rfl)))
      · refine dss_cons ?_ ?_
        · refine ds_if ?_ ?_ ?_
          · exact (DW.pt (dw_or (dt_not (dt_val (de_isi isT_tup (de_v 2 (pv 2)) (by exact rfl) B.isinstance (by exact rfl) B.tuple bb_tuple))) (dw_or (dt_cmp (o_ne (u64 hr)) (de_callB c_len (by exact rfl) B.len bb_len (da_cons (de_v 2 (pv 2)) da_nil)) de_int (nomark _)) (dw_or1 (dt_not (dt_val (de_call d_is_number hr (by decide) (by exact rfl) (by exact takes_of rfl rfl rfl rfl) (da_cons (de_ix (u1 hr) (de_v 2 (pv 2)) de_int) (da_cons de_int (da_cons (de_bin o_sub (de_v 1 (pv 1)) de_int) da_nil))))))))))
          · refine dss_one ?_
            refine ds_ret ?_
            exact de_bl
          · exact dss_nil
        refine dss_one ?_
        refine ds_if ?_ ?_ ?_
        · exact (dt_not (dt_val (de_call d_is_number hr (by decide) (by exact rfl) (by exact takes_of rfl rfl rfl rfl) (da_cons (de_ix (u1 hr) (de_v 2 (pv 2)) de_int) (da_cons (de_bin o_add (de_ix (u1 hr) (de_v 2 (pv 2)) de_int) de_int) (da_cons (de_bin o_sub (de_v 1 (pv 1)) de_int) da_nil))))))
        · refine dss_one ?_
          refine ds_ret ?_
          exact de_bl
        · exact dss_nil
    refine dss_one ?_
    refine ds_ret ?_
    exact (de_call d_do_rise hr (by decide) (by exact rfl) (by exact takes_of rfl rfl rfl rfl) (da_cons (de_v 0 (pv 0)) da_nil))
theorem ok_are_doors {f : Addr} {fd : FuncData} (F : Fun K "are_doors" "are_doors" st_are_doors f fd) (hb : Binds K fd ["thing", "many"] []) (hm : mg "are_doors" = some (.ref f)) (B : Bt mg) (C : Ct K mg cl) (d_is_number : Df P w K mg base cl 1 "is_number" ["thing", "low", "high"] m_is_number) (d_do_rise : Df P w K mg base cl 1 "do_rise" ["row"] m_do_rise) : Df P w K mg base cl 2 "are_doors" ["thing", "many"] m_are_doors :=
  ⟨f, fd, fn_are_doors F B C d_is_number d_do_rise, hm, F.kp, hb⟩
abbrev st_is_mode : Stmt := topS 35
abbrev nm_is_mode : List Str := ["thing", "many", "one"]
def ss_is_mode : Scope := scp [(("thing" : Str), NameKind.local), (("many" : Str), NameKind.cell), (("isinstance" : Str), NameKind.globalImplicit), (("tuple" : Str), NameKind.globalImplicit), (("all" : Str), NameKind.globalImplicit), (("do_rise" : Str), NameKind.globalImplicit)] [(("fast" : Str), Const.str "thing"), (("fast" : Str), Const.str "many"), (("fast" : Str), Const.str "one")]
theorem sc_is_mode : FnScope nm_is_mode ["thing", "many"] ss_is_mode := ⟨rfl, rfl, rfl, by decide +kernel, rfl, by decide +kernel, by decide +kernel⟩
theorem fn_is_mode {f : Addr} {fd : FuncData} (F : Fun K "is_mode" "is_mode" st_is_mode f fd) (B : Bt mg) (C : Ct K mg cl) (d_do_rise : Df P w K mg base cl 1 "do_rise" ["row"] m_do_rise) (d_is_number : Df P w K mg base cl 1 "is_number" ["thing", "low", "high"] m_is_number) : FnOk P w K mg base (L2.CX P w) 2 f fd ["thing", "many"] (spM K cl 2 m_is_mode) :=
  Fun.fn (k := 1) (g := g_is_mode) F (by rfl) (sc := ss_is_mode) (by rfl) (by rfl) sc_is_mode fun cdv A outer s H E e hr => by
    refine dss_one ?_
    refine ds_ret ?_
    exact (de_and (de_isi isT_tup (de_v 0 (pv 0)) (by exact rfl) B.isinstance (by exact rfl) B.tuple bb_tuple) (de_and (de_callB (c_all (by exact rfl)) (by exact rfl) B.all bb_all (da_cons (DL.de (dl_comp (by exact rfl) sc_is_mode.nd (di_seq (de_v 0 (pv 0))) (by exact blkOk_by (N := nm_is_mode) (sc := ss_is_mode) (own := [("one", 2)]) (by decide +kernel)) (fun _ _ _ _ _ => (eg_name (i := 2) (by decide) sc_is_mode.nd (by exact rfl) (by first | exact Or.inl rfl | exact Or.inr rfl))) (fun _ _ _ _ _ => dts_nil) (fun _ _ _ _ _ => (de_call d_is_number hr (by decide) (by exact rfl) takes0 (da_cons (de_v 2 (pv 2)) (da_cons de_int (da_cons (de_bin o_sub (de_v 1 (pv 1)) de_int) da_nil))))))) da_nil)) (de_one (de_call d_do_rise hr (by decide) (by exact rfl) (by exact takes_of rfl rfl rfl rfl) (da_cons (de_v 0 (pv 0)) da_nil)))))
theorem ok_is_mode {f : Addr} {fd : FuncData} (F : Fun K "is_mode" "is_mode" st_is_mode f fd) (hb : Binds K fd ["thing", "many"] []) (hm : mg "is_mode" = some (.ref f)) (B : Bt mg) (C : Ct K mg cl) (d_do_rise : Df P w K mg base cl 1 "do_rise" ["row"] m_do_rise) (d_is_number : Df P w K mg base cl 1 "is_number" ["thing", "low", "high"] m_is_number) : Df P w K mg base cl 2 "is_mode" ["thing", "many"] m_is_mode :=
  ⟨f, fd, fn_is_mode F B C d_do_rise d_is_number, hm, F.kp, hb⟩
abbrev st_is_house : Stmt := topS 36
abbrev nm_is_house : List Str := ["thing", "many", "doors", "eyes", "modes", "mode"]
def ss_is_house : Scope := scp [(("thing" : Str), NameKind.local), (("many" : Str), NameKind.local), (("doors" : Str), NameKind.local), (("eyes" : Str), NameKind.cell), (("modes" : Str), NameKind.local), (("isinstance" : Str), NameKind.globalImplicit), (("tuple" : Str), NameKind.globalImplicit), (("len" : Str), NameKind.globalImplicit), (("is_number" : Str), NameKind.globalImplicit), (("MOST_ROOMS" : Str), NameKind.globalImplicit), (("are_doors" : Str), NameKind.globalImplicit), (("are_eyes" : Str), NameKind.globalImplicit), (("MOST_MODES" : Str), NameKind.globalImplicit), (("all" : Str), NameKind.globalImplicit)] [(("fast" : Str), Const.str "thing"), (("fast" : Str), Const.str "many"), (("fast" : Str), Const.str "doors"), (("fast" : Str), Const.str "eyes"), (("fast" : Str), Const.str "modes"), (("fast" : Str), Const.str "mode")]
theorem sc_is_house : FnScope nm_is_house ["thing"] ss_is_house := ⟨rfl, rfl, rfl, by decide +kernel, rfl, by decide +kernel, by decide +kernel⟩
theorem fn_is_house {f : Addr} {fd : FuncData} (F : Fun K "is_house" "is_house" st_is_house f fd) (B : Bt mg) (C : Ct K mg cl) (d_is_number : Df P w K mg base cl 1 "is_number" ["thing", "low", "high"] m_is_number) (d_are_eyes : Df P w K mg base cl 3 "are_eyes" ["thing", "many", "doors"] m_are_eyes) (d_are_doors : Df P w K mg base cl 2 "are_doors" ["thing", "many"] m_are_doors) (d_is_mode : Df P w K mg base cl 2 "is_mode" ["thing", "many"] m_is_mode) : FnOk P w K mg base (L2.CX P w) 4 f fd ["thing"] (spM K cl 1 m_is_house) :=
  Fun.fn (k := 3) (g := g_is_house) F (by rfl) (sc := ss_is_house) (by rfl) (by rfl) sc_is_house fun cdv A outer s H E e hr => by
    refine dss_cons ?_ ?_
    · refine ds_if ?_ ?_ ?_
      · exact (DW.pt (dw_or (dt_not (dt_val (de_isi isT_tup (de_v 0 (pv 0)) (by exact rfl) B.isinstance (by exact rfl) B.tuple bb_tuple))) (dw_or (dt_cmp (o_ne (u64 hr)) (de_callB c_len (by exact rfl) B.len bb_len (da_cons (de_v 0 (pv 0)) da_nil)) de_int (nomark _)) (dw_or1 (dt_not (dt_val (de_call d_is_number hr (by decide) (by exact rfl) (by exact takes_of rfl rfl rfl rfl) (da_cons (de_ix (u1 hr) (de_v 0 (pv 0)) de_int) (da_cons de_int (da_cons (de_gint' (by exact rfl) C.c_MOST_ROOMS) da_nil))))))))))
      · refine dss_one ?_
        refine ds_ret ?_
        exact de_bl
      · exact dss_nil
    refine dss_cons ?_ ?_
    · refine ds_asg ?_ ?_
      · exact (de_v 0 (pv 0))
      · exact (dg_tup (by exact rfl) (dgs_cons (dg_name (i := 1) sc_is_house.nd (by exact rfl) (by exact (Or.inl rfl))) (dgs_cons (dg_name (i := 2) sc_is_house.nd (by exact rfl) (by exact (Or.inl rfl))) (dgs_cons (dg_name (i := 3) sc_is_house.nd (by exact rfl) (by exact (Or.inr rfl))) (dgs_cons (dg_name (i := 4) sc_is_house.nd (by exact rfl) (by exact (Or.inl rfl))) dgs_nil)))))
    refine dss_cons ?_ ?_
    · refine ds_if ?_ ?_ ?_
      · exact (DW.pt (dw_or (dt_not (dt_val (de_call d_are_doors hr (by decide) (by exact rfl) (by exact takes_of rfl rfl rfl rfl) (da_cons (de_v 2 (pv 2)) (da_cons (de_v 1 (pv 1)) da_nil))))) (dw_or1 (dt_not (dt_val (de_call d_are_eyes hr (by decide) (by exact rfl) (by exact takes_of rfl rfl rfl rfl) (da_cons (de_v 3 (pv 3)) (da_cons (de_v 1 (pv 1)) (da_cons (de_v 2 (pv 2)) da_nil)))))))))
      · refine dss_one ?_
        refine ds_ret ?_
        exact de_bl
      · exact dss_nil
    refine dss_cons ?_ ?_
    · refine ds_if ?_ ?_ ?_
      · exact (DW.pt (dw_or (dt_not (dt_val (de_isi isT_tup (de_v 4 (pv 4)) (by exact rfl) B.isinstance (by exact rfl) B.tuple bb_tuple))) (dw_or1 (dt_not (dt_chain o_le o_le de_int (de_callB c_len (by exact rfl) B.len bb_len (da_cons (de_v 4 (pv 4)) da_nil)) (de_gint' (by exact rfl) C.c_MOST_MODES))))))
      · refine dss_one ?_
        refine ds_ret ?_
        exact de_bl
      · exact dss_nil
    refine dss_one ?_
    refine ds_ret ?_
    exact (de_callB (c_all (by exact rfl)) (by exact rfl) B.all bb_all (da_cons (DL.de (dl_comp (by exact rfl) sc_is_house.nd (di_seq (de_v 4 (pv 4))) (by exact blkOk_by (N := nm_is_house) (sc := ss_is_house) (own := [("mode", 5)]) (by decide +kernel)) (fun _ _ _ _ _ => (eg_name (i := 5) (by decide) sc_is_house.nd (by exact rfl) (by first | exact Or.inl rfl | exact Or.inr rfl))) (fun _ _ _ _ _ => dts_nil) (fun _ _ _ _ _ => (de_call d_is_mode hr (by decide) (by exact rfl) takes0 (da_cons (de_v 5 (pv 5)) (da_cons (de_callB c_len (by exact rfl) B.len bb_len (da_cons (de_v 3 (pv 3)) da_nil)) da_nil)))))) da_nil))
theorem ok_is_house {f : Addr} {fd : FuncData} (F : Fun K "is_house" "is_house" st_is_house f fd) (hb : Binds K fd ["thing"] []) (hm : mg "is_house" = some (.ref f)) (B : Bt mg) (C : Ct K mg cl) (d_is_number : Df P w K mg base cl 1 "is_number" ["thing", "low", "high"] m_is_number) (d_are_eyes : Df P w K mg base cl 3 "are_eyes" ["thing", "many", "doors"] m_are_eyes) (d_are_doors : Df P w K mg base cl 2 "are_doors" ["thing", "many"] m_are_doors) (d_is_mode : Df P w K mg base cl 2 "is_mode" ["thing", "many"] m_is_mode) : Df P w K mg base cl 4 "is_house" ["thing"] m_is_house :=
  ⟨f, fd, fn_is_house F B C d_is_number d_are_eyes d_are_doors d_is_mode, hm, F.kp, hb⟩
abbrev st_need_house : Stmt := topS 37
abbrev nm_need_house : List Str := ["house"]
def ss_need_house : Scope := scp [(("house" : Str), NameKind.local), (("is_house" : Str), NameKind.globalImplicit), (("NoHouse" : Str), NameKind.globalImplicit)] []
theorem sc_need_house : FnScope nm_need_house ["house"] ss_need_house := ⟨rfl, rfl, rfl, by decide +kernel, rfl, by decide +kernel, by decide +kernel⟩
theorem fn_need_house {f : Addr} {fd : FuncData} (F : Fun K "need_house" "need_house" st_need_house f fd) (B : Bt mg) (C : Ct K mg cl) (d_is_house : Df P w K mg base cl 4 "is_house" ["thing"] m_is_house) : FnOk P w K mg base (L2.CX P w) 5 f fd ["house"] (spM K cl 1 m_need_house) :=
  Fun.fn (k := 4) (g := g_need_house) F (by rfl) (sc := ss_need_house) (by rfl) (by rfl) sc_need_house fun cdv A outer s H E e hr => by
    refine dss_one ?_
    refine ds_if ?_ ?_ ?_
    · exact (dt_not (dt_val (de_call d_is_house hr (by decide) (by exact rfl) (by exact takes_of rfl rfl rfl rfl) (da_cons (de_v 0 (pv 0)) da_nil))))
    · refine dss_one ?_
      exact ds_raise C.x_NoHouse (by exact rfl) (by exact takes_of rfl rfl rfl rfl) (by exact rfl)
    · exact dss_nil
theorem ok_need_house {f : Addr} {fd : FuncData} (F : Fun K "need_house" "need_house" st_need_house f fd) (hb : Binds K fd ["house"] []) (hm : mg "need_house" = some (.ref f)) (B : Bt mg) (C : Ct K mg cl) (d_is_house : Df P w K mg base cl 4 "is_house" ["thing"] m_is_house) : Df P w K mg base cl 5 "need_house" ["house"] m_need_house :=
  ⟨f, fd, fn_need_house F B C d_is_house, hm, F.kp, hb⟩
abbrev st_Stand_init : Stmt := inClass (topS 42) 0
abbrev nm_Stand_init : List Str := ["self"]
def ss_Stand_init : Scope := scp [(("self" : Str), NameKind.local)] []
theorem sc_Stand_init : FnScope nm_Stand_init ["self"] ss_Stand_init := ⟨rfl, rfl, rfl, by decide +kernel, rfl, by decide +kernel, by decide +kernel⟩
theorem fn_Stand_init {f : Addr} {fd : FuncData} (F : Fun K "__init__" "Stand.__init__" st_Stand_init f fd) (B : Bt mg) (C : Ct K mg cl) : FnOk P w K mg base (L2.CX P w) 1 f fd ["self"] (spM K cl 1 m_Stand_init) :=
  Fun.fn (k := 0) (g := g_Stand_init) F (by rfl) (sc := ss_Stand_init) (by rfl) (by rfl) sc_Stand_init fun cdv A outer s H E e hr => by
    refine dss_cons ?_ ?_
    · exact ds_fld C.k_Stand (by decide) (de_v 0 (pv 0)) de_str
    refine dss_cons ?_ ?_
    · exact ds_fld C.k_Stand (by decide) (de_v 0 (pv 0)) de_non
    refine dss_cons ?_ ?_
    · exact ds_fld C.k_Stand (by decide) (de_v 0 (pv 0)) de_non
    refine dss_cons ?_ ?_
    · exact ds_fld C.k_Stand (by decide) (de_v 0 (pv 0)) (de_tup da_nil)
    refine dss_cons ?_ ?_
    · exact ds_fld C.k_Stand (by decide) (de_v 0 (pv 0)) (de_tup da_nil)
    refine dss_cons ?_ ?_
    · exact ds_fld C.k_Stand (by decide) (de_v 0 (pv 0)) de_int
    refine dss_cons ?_ ?_
    · exact ds_fld C.k_Stand (by decide) (de_v 0 (pv 0)) (de_tup da_nil)
    refine dss_cons ?_ ?_
    · exact ds_fld C.k_Stand (by decide) (de_v 0 (pv 0)) de_non
    refine dss_one ?_
    exact ds_fld C.k_Stand (by decide) (de_v 0 (pv 0)) (de_tup da_nil)
theorem ok_Stand_init {f : Addr} {fd : FuncData} (F : Fun K "__init__" "Stand.__init__" st_Stand_init f fd) (hb : Binds K fd ["self"] []) (hm : Mk K (cl "Stand") f) (hg : mg "Stand" = some (.ref (cl "Stand"))) (B : Bt mg) (C : Ct K mg cl) : DfC P w K mg base cl 1 "Stand" ["self"] m_Stand_init :=
  ⟨f, fd, hm, fn_Stand_init F B C, hg, hb⟩
abbrev st_Panel_init : Stmt := inClass (topS 43) 0
abbrev nm_Panel_init : List Str := ["self", "house", "leaving", "entering", "ringing"]
def ss_Panel_init : Scope := scp [(("self" : Str), NameKind.local), (("house" : Str), NameKind.local), (("leaving" : Str), NameKind.local), (("entering" : Str), NameKind.local), (("ringing" : Str), NameKind.local), (("need_house" : Str), NameKind.globalImplicit), (("Stand" : Str), NameKind.globalImplicit)] []
theorem sc_Panel_init : FnScope nm_Panel_init ["self", "house", "leaving", "entering", "ringing"] ss_Panel_init := ⟨rfl, rfl, rfl, by decide +kernel, rfl, by decide +kernel, by decide +kernel⟩
theorem fn_Panel_init {f : Addr} {fd : FuncData} (F : Fun K "__init__" "Panel.__init__" st_Panel_init f fd) (B : Bt mg) (C : Ct K mg cl) (d_need_house : Df P w K mg base cl 5 "need_house" ["house"] m_need_house) (d_Stand_init : DfC P w K mg base cl 1 "Stand" ["self"] m_Stand_init) : FnOk P w K mg base (L2.CX P w) 6 f fd ["self", "house", "leaving", "entering", "ringing"] (spM K cl 5 m_Panel_init) :=
  Fun.fn (k := 5) (g := g_Panel_init) F (by rfl) (sc := ss_Panel_init) (by rfl) (by rfl) sc_Panel_init fun cdv A outer s H E e hr => by
    refine dss_cons ?_ ?_
    · refine ds_expr ?_
      exact (de_call d_need_house hr (by decide) (by exact rfl) (by exact takes_of rfl rfl rfl rfl) (da_cons (de_v 1 (pv 1)) da_nil))
    refine dss_cons ?_ ?_
    · exact ds_fld C.k_Panel (by decide) (de_v 0 (pv 0)) (de_v 1 (pv 1))
    refine dss_cons ?_ ?_
    · exact ds_fld C.k_Panel (by decide) (de_v 0 (pv 0)) (de_v 2 (pv 2))
    refine dss_cons ?_ ?_
    · exact ds_fld C.k_Panel (by decide) (de_v 0 (pv 0)) (de_v 3 (pv 3))
    refine dss_cons ?_ ?_
    · exact ds_fld C.k_Panel (by decide) (de_v 0 (pv 0)) (de_v 4 (pv 4))
    refine dss_cons ?_ ?_
    · exact ds_fld C.k_Panel (by decide) (de_v 0 (pv 0)) (de_make0 d_Stand_init hr (by decide) (by exact rfl) (by exact takes_of rfl rfl rfl rfl))
    refine dss_cons ?_ ?_
    · exact ds_fld C.k_Panel (by decide) (de_v 0 (pv 0)) (de_lst da_nil)
    refine dss_one ?_
    exact ds_fld C.k_Panel (by decide) (de_v 0 (pv 0)) (de_lst da_nil)
theorem ok_Panel_init {f : Addr} {fd : FuncData} (F : Fun K "__init__" "Panel.__init__" st_Panel_init f fd) (hb : Binds K fd ["self", "house", "leaving", "entering", "ringing"] []) (hm : Mk K (cl "Panel") f) (hg : mg "Panel" = some (.ref (cl "Panel"))) (B : Bt mg) (C : Ct K mg cl) (d_need_house : Df P w K mg base cl 5 "need_house" ["house"] m_need_house) (d_Stand_init : DfC P w K mg base cl 1 "Stand" ["self"] m_Stand_init) : DfC P w K mg base cl 6 "Panel" ["self", "house", "leaving", "entering", "ringing"] m_Panel_init :=
  ⟨f, fd, hm, fn_Panel_init F B C d_need_house d_Stand_init, hg, hb⟩
abbrev st_Codes_init : Stmt := inClass (topS 23) 0
abbrev nm_Codes_init : List Str := ["self", "tries", "rest"]
def ss_Codes_init : Scope := scp [(("self" : Str), NameKind.local), (("tries" : Str), NameKind.local), (("rest" : Str), NameKind.local)] []
theorem sc_Codes_init : FnScope nm_Codes_init ["self", "tries", "rest"] ss_Codes_init := ⟨rfl, rfl, rfl, by decide +kernel, rfl, by decide +kernel, by decide +kernel⟩
theorem fn_Codes_init {f : Addr} {fd : FuncData} (F : Fun K "__init__" "Codes.__init__" st_Codes_init f fd) (B : Bt mg) (C : Ct K mg cl) : FnOk P w K mg base (L2.CX P w) 1 f fd ["self", "tries", "rest"] (spM K cl 3 m_Codes_init) :=
  Fun.fn (k := 0) (g := g_Codes_init) F (by rfl) (sc := ss_Codes_init) (by rfl) (by rfl) sc_Codes_init fun cdv A outer s H E e hr => by
    refine dss_cons ?_ ?_
    · exact ds_fld C.k_Codes (by decide) (de_v 0 (pv 0)) (de_v 1 (pv 1))
    refine dss_cons ?_ ?_
    · exact ds_fld C.k_Codes (by decide) (de_v 0 (pv 0)) (de_v 2 (pv 2))
    refine dss_cons ?_ ?_
    · exact ds_fld C.k_Codes (by decide) (de_v 0 (pv 0)) de_dic0
    refine dss_cons ?_ ?_
    · exact ds_fld C.k_Codes (by decide) (de_v 0 (pv 0)) de_int
    refine dss_cons ?_ ?_
    · exact ds_fld C.k_Codes (by decide) (de_v 0 (pv 0)) de_int
    refine dss_cons ?_ ?_
    · exact ds_fld C.k_Codes (by decide) (de_v 0 (pv 0)) de_int
    refine dss_one ?_
    exact ds_fld C.k_Codes (by decide) (de_v 0 (pv 0)) de_int
theorem ok_Codes_init {f : Addr} {fd : FuncData} (F : Fun K "__init__" "Codes.__init__" st_Codes_init f fd) (hb : Binds K fd ["self", "tries", "rest"] []) (hm : Mk K (cl "Codes") f) (hg : mg "Codes" = some (.ref (cl "Codes"))) (B : Bt mg) (C : Ct K mg cl) : DfC P w K mg base cl 1 "Codes" ["self", "tries", "rest"] m_Codes_init :=
  ⟨f, fd, hm, fn_Codes_init F B C, hg, hb⟩
abbrev st_Guard_init : Stmt := inClass (topS 45) 0
abbrev nm_Guard_init : List Str := ["self", "house", "leaving", "entering", "ringing", "tries", "rest"]
def ss_Guard_init : Scope := scp [(("self" : Str), NameKind.local), (("house" : Str), NameKind.local), (("leaving" : Str), NameKind.local), (("entering" : Str), NameKind.local), (("ringing" : Str), NameKind.local), (("tries" : Str), NameKind.local), (("rest" : Str), NameKind.local), (("Panel" : Str), NameKind.globalImplicit), (("Codes" : Str), NameKind.globalImplicit)] []
theorem sc_Guard_init : FnScope nm_Guard_init ["self", "house", "leaving", "entering", "ringing", "tries", "rest"] ss_Guard_init := ⟨rfl, rfl, rfl, by decide +kernel, rfl, by decide +kernel, by decide +kernel⟩
theorem fn_Guard_init {f : Addr} {fd : FuncData} (F : Fun K "__init__" "Guard.__init__" st_Guard_init f fd) (B : Bt mg) (C : Ct K mg cl) (d_Panel_init : DfC P w K mg base cl 6 "Panel" ["self", "house", "leaving", "entering", "ringing"] m_Panel_init) (d_Codes_init : DfC P w K mg base cl 1 "Codes" ["self", "tries", "rest"] m_Codes_init) : FnOk P w K mg base (L2.CX P w) 8 f fd ["self", "house", "leaving", "entering", "ringing", "tries", "rest"] (spM K cl 7 m_Guard_init) :=
  Fun.fn (k := 7) (g := g_Guard_init) F (by rfl) (sc := ss_Guard_init) (by rfl) (by rfl) sc_Guard_init fun cdv A outer s H E e hr => by
    refine dss_cons ?_ ?_
    · exact ds_fld C.k_Guard (by decide) (de_v 0 (pv 0)) (de_make d_Panel_init hr (by decide) (by exact rfl) (by exact takes_of rfl rfl rfl rfl) (da_cons (de_v 1 (pv 1)) (da_cons (de_v 2 (pv 2)) (da_cons (de_v 3 (pv 3)) (da_cons (de_v 4 (pv 4)) da_nil)))))
    refine dss_cons ?_ ?_
    · exact ds_fld C.k_Guard (by decide) (de_v 0 (pv 0)) (de_make d_Codes_init hr (by decide) (by exact rfl) (by exact takes_of rfl rfl rfl rfl) (da_cons (de_v 5 (pv 5)) (da_cons (de_v 6 (pv 6)) da_nil)))
    refine dss_one ?_
    exact ds_fld C.k_Guard (by decide) (de_v 0 (pv 0)) (de_lst da_nil)
theorem ok_Guard_init {f : Addr} {fd : FuncData} (F : Fun K "__init__" "Guard.__init__" st_Guard_init f fd) (hb : Binds K fd ["self", "house", "leaving", "entering", "ringing", "tries", "rest"] []) (hm : Mk K (cl "Guard") f) (hg : mg "Guard" = some (.ref (cl "Guard"))) (B : Bt mg) (C : Ct K mg cl) (d_Panel_init : DfC P w K mg base cl 6 "Panel" ["self", "house", "leaving", "entering", "ringing"] m_Panel_init) (d_Codes_init : DfC P w K mg base cl 1 "Codes" ["self", "tries", "rest"] m_Codes_init) : DfC P w K mg base cl 8 "Guard" ["self", "house", "leaving", "entering", "ringing", "tries", "rest"] m_Guard_init :=
  ⟨f, fd, hm, fn_Guard_init F B C d_Panel_init d_Codes_init, hg, hb⟩
abbrev st_is_name : Stmt := topS 20
abbrev nm_is_name : List Str := ["thing", "sign"]
def ss_is_name : Scope := scp [(("thing" : Str), NameKind.local), (("isinstance" : Str), NameKind.globalImplicit), (("str" : Str), NameKind.globalImplicit), (("len" : Str), NameKind.globalImplicit), (("all" : Str), NameKind.globalImplicit)] [(("fast" : Str), Const.str "thing"), (("fast" : Str), Const.str "sign")]
theorem sc_is_name : FnScope nm_is_name ["thing"] ss_is_name := ⟨rfl, rfl, rfl, by decide +kernel, rfl, by decide +kernel, by decide +kernel⟩
theorem fn_is_name {f : Addr} {fd : FuncData} (F : Fun K "is_name" "is_name" st_is_name f fd) (B : Bt mg) (C : Ct K mg cl) : FnOk P w K mg base (L2.CX P w) 1 f fd ["thing"] (spM K cl 1 m_is_name) :=
  Fun.fn (k := 0) (g := g_is_name) F (by rfl) (sc := ss_is_name) (by rfl) (by rfl) sc_is_name fun cdv A outer s H E e hr => by
    refine dss_one ?_
    refine ds_ret ?_
    exact (de_and (de_isi isT_str (de_v 0 (pv 0)) (by exact rfl) B.isinstance (by exact rfl) B.str bb_str) (de_and (de_chain o_le o_le de_int (de_callB c_len (by exact rfl) B.len bb_len (da_cons (de_v 0 (pv 0)) da_nil)) de_int) (de_one (de_callB (c_all (by exact rfl)) (by exact rfl) B.all bb_all (da_cons (DL.de (dl_comp (by exact rfl) sc_is_name.nd (di_seq (de_v 0 (pv 0))) (by exact blkOk_by (N := nm_is_name) (sc := ss_is_name) (own := [("sign", 1)]) (by decide +kernel)) (fun _ _ _ _ _ => (eg_name (i := 1) (by decide) sc_is_name.nd (by exact rfl) (by first | exact Or.inl rfl | exact Or.inr rfl))) (fun _ _ _ _ _ => dts_nil) (fun _ _ _ _ _ => (de_cmp (o_inX (u65 hr)) (de_v 1 (pv 1)) (de_gstr' (by exact rfl) C.c_LETTERS) (by exact rfl))))) da_nil)))))
theorem ok_is_name {f : Addr} {fd : FuncData} (F : Fun K "is_name" "is_name" st_is_name f fd) (hb : Binds K fd ["thing"] []) (hm : mg "is_name" = some (.ref f)) (B : Bt mg) (C : Ct K mg cl) : Df P w K mg base cl 1 "is_name" ["thing"] m_is_name :=
  ⟨f, fd, fn_is_name F B C, hm, F.kp, hb⟩
abbrev st_is_code : Stmt := topS 21
abbrev nm_is_code : List Str := ["thing", "sign"]
def ss_is_code : Scope := scp [(("thing" : Str), NameKind.local), (("isinstance" : Str), NameKind.globalImplicit), (("str" : Str), NameKind.globalImplicit), (("len" : Str), NameKind.globalImplicit), (("all" : Str), NameKind.globalImplicit)] [(("fast" : Str), Const.str "thing"), (("fast" : Str), Const.str "sign")]
theorem sc_is_code : FnScope nm_is_code ["thing"] ss_is_code := ⟨rfl, rfl, rfl, by decide +kernel, rfl, by decide +kernel, by decide +kernel⟩
theorem fn_is_code {f : Addr} {fd : FuncData} (F : Fun K "is_code" "is_code" st_is_code f fd) (B : Bt mg) (C : Ct K mg cl) : FnOk P w K mg base (L2.CX P w) 1 f fd ["thing"] (spM K cl 1 m_is_code) :=
  Fun.fn (k := 0) (g := g_is_code) F (by rfl) (sc := ss_is_code) (by rfl) (by rfl) sc_is_code fun cdv A outer s H E e hr => by
    refine dss_one ?_
    refine ds_ret ?_
    exact (de_and (de_isi isT_str (de_v 0 (pv 0)) (by exact rfl) B.isinstance (by exact rfl) B.str bb_str) (de_and (de_chain o_le o_le de_int (de_callB c_len (by exact rfl) B.len bb_len (da_cons (de_v 0 (pv 0)) da_nil)) de_int) (de_one (de_callB (c_all (by exact rfl)) (by exact rfl) B.all bb_all (da_cons (DL.de (dl_comp (by exact rfl) sc_is_code.nd (di_seq (de_v 0 (pv 0))) (by exact blkOk_by (N := nm_is_code) (sc := ss_is_code) (own := [("sign", 1)]) (by decide +kernel)) (fun _ _ _ _ _ => (eg_name (i := 1) (by decide) sc_is_code.nd (by exact rfl) (by first | exact Or.inl rfl | exact Or.inr rfl))) (fun _ _ _ _ _ => dts_nil) (fun _ _ _ _ _ => (de_cmp (o_inX (u65 hr)) (de_v 1 (pv 1)) (de_gstr' (by exact rfl) C.c_FIGURES) (by exact rfl))))) da_nil)))))
theorem ok_is_code {f : Addr} {fd : FuncData} (F : Fun K "is_code" "is_code" st_is_code f fd) (hb : Binds K fd ["thing"] []) (hm : mg "is_code" = some (.ref f)) (B : Bt mg) (C : Ct K mg cl) : Df P w K mg base cl 1 "is_code" ["thing"] m_is_code :=
  ⟨f, fd, fn_is_code F B C, hm, F.kp, hb⟩
abbrev st_are_rights : Stmt := topS 22
abbrev nm_are_rights : List Str := ["thing"]
def ss_are_rights : Scope := scp [(("thing" : Str), NameKind.local), (("isinstance" : Str), NameKind.globalImplicit), (("tuple" : Str), NameKind.globalImplicit), (("RIGHTS" : Str), NameKind.globalImplicit)] []
theorem sc_are_rights : FnScope nm_are_rights ["thing"] ss_are_rights := ⟨rfl, rfl, rfl, by decide +kernel, rfl, by decide +kernel, by decide +kernel⟩
theorem fn_are_rights {f : Addr} {fd : FuncData} (F : Fun K "are_rights" "are_rights" st_are_rights f fd) (B : Bt mg) (C : Ct K mg cl) : FnOk P w K mg base (L2.CX P w) 1 f fd ["thing"] (spM K cl 1 m_are_rights) :=
  Fun.fn (k := 0) (g := g_are_rights) F (by rfl) (sc := ss_are_rights) (by rfl) (by rfl) sc_are_rights fun cdv A outer s H E e hr => by
    refine dss_one ?_
    refine ds_ret ?_
    exact (de_and (de_isi isT_tup (de_v 0 (pv 0)) (by exact rfl) B.isinstance (by exact rfl) B.tuple bb_tuple) (de_one (de_cmp (o_inX (u65 hr)) (de_v 0 (pv 0)) (de_tup (da_cons (de_tup da_nil) (da_cons (de_tup (da_cons de_str da_nil)) (da_cons (de_tup (da_cons de_str da_nil)) (da_cons (de_gtup' (by exact rfl) C.c_RIGHTS) da_nil))))) (by exact rfl))))
theorem ok_are_rights {f : Addr} {fd : FuncData} (F : Fun K "are_rights" "are_rights" st_are_rights f fd) (hb : Binds K fd ["thing"] []) (hm : mg "are_rights" = some (.ref f)) (B : Bt mg) (C : Ct K mg cl) : Df P w K mg base cl 1 "are_rights" ["thing"] m_are_rights :=
  ⟨f, fd, fn_are_rights F B C, hm, F.kp, hb⟩
abbrev st_Codes_who : Stmt := inClass (topS 23) 3
abbrev nm_Codes_who : List Str := ["self", "code", "some", "name"]
def ss_Codes_who : Scope := scp [(("self" : Str), NameKind.cell), (("code" : Str), NameKind.cell), (("some" : Str), NameKind.local)] [(("fast" : Str), Const.str "self"), (("fast" : Str), Const.str "code"), (("fast" : Str), Const.str "name"), (("fast" : Str), Const.str "some")]
theorem sc_Codes_who : FnScope nm_Codes_who ["self", "code"] ss_Codes_who := ⟨rfl, rfl, rfl, by decide +kernel, rfl, by decide +kernel, by decide +kernel⟩
theorem fn_Codes_who {f : Addr} {fd : FuncData} (F : Fun K "who" "Codes.who" st_Codes_who f fd) (B : Bt mg) (C : Ct K mg cl) : FnOk P w K mg base (L2.CX P w) 1 f fd ["self", "code"] (spM K cl 2 m_Codes_who) :=
  Fun.fn (k := 0) (g := g_Codes_who) F (by rfl) (sc := ss_Codes_who) (by rfl) (by rfl) sc_Codes_who fun cdv A outer s H E e hr => by
    refine dss_cons ?_ ?_
    · exact ds_setLc (i := 2) (by exact rfl) sc_Codes_who.nd (by exact rfl) (by exact rfl) (by exact sw_true rfl rfl rfl (by decide +kernel)) (di_seq (de_fld C.k_Codes (by decide) (de_v 0 (pv 0)))) (by exact blkOk_by (N := nm_Codes_who) (sc := ss_Codes_who) (own := [("name", 3)]) (by decide +kernel)) (fun _ _ _ _ _ => (eg_name (i := 3) (by decide) sc_Codes_who.nd (by exact rfl) (by first | exact Or.inl rfl | exact Or.inr rfl))) (fun _ _ _ _ _ => (dts_one (dt_cmp (o_eq (u64 hr)) (de_ix (u1 hr) (de_ix (u1 hr) (de_fld C.k_Codes (by decide) (de_v 0 (pv 0))) (de_v 3 (pv 3))) de_int) (de_v 1 (pv 1)) (nomark _)))) (fun _ _ _ _ _ => (de_v 3 (pv 3)))
    refine dss_one ?_
    refine ds_ret ?_
    exact (de_ifExp (dt_cmp (o_ne (u64 hr)) (de_v 2 (pv 2)) (de_lst da_nil) (nomark _)) (de_ix (u1 hr) (de_v 2 (pv 2)) de_int) de_non)
theorem ok_Codes_who {f : Addr} {fd : FuncData} (F : Fun K "who" "Codes.who" st_Codes_who f fd) (hb : Binds K fd ["self", "code"] []) (hm : Meth K (cl "Codes") "who" f) (B : Bt mg) (C : Ct K mg cl) : DfM P w K mg base cl 1 "Codes" "who" ["self", "code"] m_Codes_who :=
  ⟨f, fd, fn_Codes_who F B C, hm, hb⟩
abbrev st_Codes_give : Stmt := inClass (topS 23) 1
abbrev nm_Codes_give : List Str := ["self", "name", "code", "rights", "more"]
def ss_Codes_give : Scope := scp [(("self" : Str), NameKind.local), (("name" : Str), NameKind.local), (("code" : Str), NameKind.local), (("rights" : Str), NameKind.local), (("more" : Str), NameKind.local), (("is_name" : Str), NameKind.globalImplicit), (("NoName" : Str), NameKind.globalImplicit), (("is_code" : Str), NameKind.globalImplicit), (("NoCode" : Str), NameKind.globalImplicit), (("are_rights" : Str), NameKind.globalImplicit), (("NoRight" : Str), NameKind.globalImplicit), (("Taken" : Str), NameKind.globalImplicit), (("dict" : Str), NameKind.globalImplicit), (("len" : Str), NameKind.globalImplicit)] []
theorem sc_Codes_give : FnScope nm_Codes_give ["self", "name", "code", "rights"] ss_Codes_give := ⟨rfl, rfl, rfl, by decide +kernel, rfl, by decide +kernel, by decide +kernel⟩
theorem fn_Codes_give {f : Addr} {fd : FuncData} (F : Fun K "give" "Codes.give" st_Codes_give f fd) (B : Bt mg) (C : Ct K mg cl) (d_is_name : Df P w K mg base cl 1 "is_name" ["thing"] m_is_name) (d_is_code : Df P w K mg base cl 1 "is_code" ["thing"] m_is_code) (d_are_rights : Df P w K mg base cl 1 "are_rights" ["thing"] m_are_rights) (d_Codes_who : DfM P w K mg base cl 1 "Codes" "who" ["self", "code"] m_Codes_who) : FnOk P w K mg base (L2.CX P w) 2 f fd ["self", "name", "code", "rights"] (spM K cl 4 m_Codes_give) :=
  Fun.fn (k := 1) (g := g_Codes_give) F (by rfl) (sc := ss_Codes_give) (by rfl) (by rfl) sc_Codes_give fun cdv A outer s H E e hr => by
    refine dss_cons ?_ ?_
    · refine ds_if ?_ ?_ ?_
      · exact (dt_not (dt_val (de_call d_is_name hr (by decide) (by exact rfl) (by exact takes_of rfl rfl rfl rfl) (da_cons (de_v 1 (pv 1)) da_nil))))
      · refine dss_one ?_
        exact ds_raise C.x_NoName (by exact rfl) (by exact takes_of rfl rfl rfl rfl) (by exact rfl)
      · exact dss_nil
    refine dss_cons ?_ ?_
    · refine ds_if ?_ ?_ ?_
      · exact (dt_not (dt_val (de_call d_is_code hr (by decide) (by exact rfl) (by exact takes_of rfl rfl rfl rfl) (da_cons (de_v 2 (pv 2)) da_nil))))
      · refine dss_one ?_
        exact ds_raise C.x_NoCode (by exact rfl) (by exact takes_of rfl rfl rfl rfl) (by exact rfl)
      · exact dss_nil
    refine dss_cons ?_ ?_
    · refine ds_if ?_ ?_ ?_
      · exact (dt_not (dt_val (de_call d_are_rights hr (by decide) (by exact rfl) (by exact takes_of rfl rfl rfl rfl) (da_cons (de_v 3 (pv 3)) da_nil))))
      · refine dss_one ?_
        exact ds_raise C.x_NoRight (by exact rfl) (by exact takes_of rfl rfl rfl rfl) (by exact rfl)
      · exact dss_nil
    refine dss_cons ?_ ?_
    · refine ds_if ?_ ?_ ?_
      · exact (DW.pt (dw_or (dt_cmp (o_inX (u65 hr)) (de_v 1 (pv 1)) (de_fld C.k_Codes (by decide) (de_v 0 (pv 0))) (by exact rfl)) (dw_or1 (dt_cmp o_isnot (de_meth d_Codes_who C.k_Codes hr (by decide) (by exact takes_of rfl rfl rfl rfl) (de_v 0 (pv 0)) (da_cons (de_v 2 (pv 2)) da_nil)) de_non (nomark _)))))
      · refine dss_one ?_
        exact ds_raise C.x_Taken (by exact rfl) (by exact takes_of rfl rfl rfl rfl) (by exact rfl)
      · exact dss_nil
    refine dss_cons ?_ ?_
    · refine ds_setOwnD (i := 4) sc_Codes_give.nd (by exact rfl) (by exact (Or.inl rfl)) ?_
      exact (dd_dict (da_cons (de_fld C.k_Codes (by decide) (de_v 0 (pv 0))) da_nil) (by exact rfl) B.dict)
    refine dss_cons ?_ ?_
    · exact ds_putOwnD (u1 hr) (pv 4) (de_v 1 (pv 1)) (de_tup (da_cons (de_v 2 (pv 2)) (da_cons (de_v 3 (pv 3)) da_nil)))
    refine dss_freeze 4 ?_
    refine dss_cons ?_ ?_
    · exact ds_fld C.k_Codes (by decide) (de_v 0 (pv 0)) (de_v 4 (pv 4))
    refine dss_one ?_
    refine ds_ret ?_
    exact (de_callB c_len (by exact rfl) B.len bb_len (da_cons (de_v 4 (pv 4)) da_nil))
theorem ok_Codes_give {f : Addr} {fd : FuncData} (F : Fun K "give" "Codes.give" st_Codes_give f fd) (hb : Binds K fd ["self", "name", "code", "rights"] []) (hm : Meth K (cl "Codes") "give" f) (B : Bt mg) (C : Ct K mg cl) (d_is_name : Df P w K mg base cl 1 "is_name" ["thing"] m_is_name) (d_is_code : Df P w K mg base cl 1 "is_code" ["thing"] m_is_code) (d_are_rights : Df P w K mg base cl 1 "are_rights" ["thing"] m_are_rights) (d_Codes_who : DfM P w K mg base cl 1 "Codes" "who" ["self", "code"] m_Codes_who) : DfM P w K mg base cl 2 "Codes" "give" ["self", "name", "code", "rights"] m_Codes_give :=
  ⟨f, fd, fn_Codes_give F B C d_is_name d_is_code d_are_rights d_Codes_who, hm, hb⟩
abbrev st_Guard_give : Stmt := inClass (topS 45) 1
abbrev nm_Guard_give : List Str := ["self", "name", "code", "rights"]
def ss_Guard_give : Scope := scp [(("self" : Str), NameKind.local), (("name" : Str), NameKind.local), (("code" : Str), NameKind.local), (("rights" : Str), NameKind.local)] []
theorem sc_Guard_give : FnScope nm_Guard_give ["self", "name", "code", "rights"] ss_Guard_give := ⟨rfl, rfl, rfl, by decide +kernel, rfl, by decide +kernel, by decide +kernel⟩
theorem fn_Guard_give {f : Addr} {fd : FuncData} (F : Fun K "give" "Guard.give" st_Guard_give f fd) (B : Bt mg) (C : Ct K mg cl) (d_Codes_give : DfM P w K mg base cl 2 "Codes" "give" ["self", "name", "code", "rights"] m_Codes_give) : FnOk P w K mg base (L2.CX P w) 3 f fd ["self", "name", "code", "rights"] (spM K cl 4 m_Guard_give) :=
  Fun.fn (k := 2) (g := g_Guard_give) F (by rfl) (sc := ss_Guard_give) (by rfl) (by rfl) sc_Guard_give fun cdv A outer s H E e hr => by
    refine dss_one ?_
    refine ds_ret ?_
    exact (de_meth d_Codes_give C.k_Codes hr (by decide) (by exact takes_of rfl rfl rfl rfl) (de_fld C.k_Guard (by decide) (de_v 0 (pv 0))) (da_cons (de_v 1 (pv 1)) (da_cons (de_v 2 (pv 2)) (da_cons (de_v 3 (pv 3)) da_nil))))
theorem ok_Guard_give {f : Addr} {fd : FuncData} (F : Fun K "give" "Guard.give" st_Guard_give f fd) (hb : Binds K fd ["self", "name", "code", "rights"] []) (hm : Meth K (cl "Guard") "give" f) (B : Bt mg) (C : Ct K mg cl) (d_Codes_give : DfM P w K mg base cl 2 "Codes" "give" ["self", "name", "code", "rights"] m_Codes_give) : DfM P w K mg base cl 3 "Guard" "give" ["self", "name", "code", "rights"] m_Guard_give :=
  ⟨f, fd, fn_Guard_give F B C d_Codes_give, hm, hb⟩
abbrev st_Panel_log : Stmt := inClass (topS 43) 22
abbrev nm_Panel_log : List Str := ["self"]
def ss_Panel_log : Scope := scp [(("self" : Str), NameKind.local), (("list" : Str), NameKind.globalImplicit)] []
theorem sc_Panel_log : FnScope nm_Panel_log ["self"] ss_Panel_log := ⟨rfl, rfl, rfl, by decide +kernel, rfl, by decide +kernel, by decide +kernel⟩
theorem fn_Panel_log {f : Addr} {fd : FuncData} (F : Fun K "log" "Panel.log" st_Panel_log f fd) (B : Bt mg) (C : Ct K mg cl) : FnOk P w K mg base (L2.CX P w) 1 f fd ["self"] (spM K cl 1 m_Panel_log) :=
  Fun.fn (k := 0) (g := g_Panel_log) F (by rfl) (sc := ss_Panel_log) (by rfl) (by rfl) sc_Panel_log fun cdv A outer s H E e hr => by
    refine dss_one ?_
    refine ds_ret ?_
    exact (de_callTy c_list (by exact rfl) B.list bb_list (da_cons (de_fld C.k_Stand (by decide) (de_fld C.k_Panel (by decide) (de_v 0 (pv 0)))) da_nil))
theorem ok_Panel_log {f : Addr} {fd : FuncData} (F : Fun K "log" "Panel.log" st_Panel_log f fd) (hb : Binds K fd ["self"] []) (hm : Meth K (cl "Panel") "log" f) (B : Bt mg) (C : Ct K mg cl) : DfM P w K mg base cl 1 "Panel" "log" ["self"] m_Panel_log :=
  ⟨f, fd, fn_Panel_log F B C, hm, hb⟩
abbrev st_Panel_twin : Stmt := inClass (topS 43) 26
abbrev nm_Panel_twin : List Str := ["self", "found"]
def ss_Panel_twin : Scope := scp [(("self" : Str), NameKind.local), (("found" : Str), NameKind.local), (("Panel" : Str), NameKind.globalImplicit), (("list" : Str), NameKind.globalImplicit)] []
theorem sc_Panel_twin : FnScope nm_Panel_twin ["self"] ss_Panel_twin := ⟨rfl, rfl, rfl, by decide +kernel, rfl, by decide +kernel, by decide +kernel⟩
theorem fn_Panel_twin {f : Addr} {fd : FuncData} (F : Fun K "twin" "Panel.twin" st_Panel_twin f fd) (B : Bt mg) (C : Ct K mg cl) (d_Panel_init : DfC P w K mg base cl 6 "Panel" ["self", "house", "leaving", "entering", "ringing"] m_Panel_init) : FnOk P w K mg base (L2.CX P w) 8 f fd ["self"] (spM K cl 1 m_Panel_twin) :=
  Fun.fn (k := 7) (g := g_Panel_twin) F (by rfl) (sc := ss_Panel_twin) (by rfl) (by rfl) sc_Panel_twin fun cdv A outer s H E e hr => by
    refine dss_cons ?_ ?_
    · refine ds_set (i := 1) sc_Panel_twin.nd (by exact rfl) (by exact (Or.inl rfl)) ?_
      exact (de_make d_Panel_init hr (by decide) (by exact rfl) (by exact takes_of rfl rfl rfl rfl) (da_cons (de_fld C.k_Panel (by decide) (de_v 0 (pv 0))) (da_cons (de_fld C.k_Panel (by decide) (de_v 0 (pv 0))) (da_cons (de_fld C.k_Panel (by decide) (de_v 0 (pv 0))) (da_cons (de_fld C.k_Panel (by decide) (de_v 0 (pv 0))) da_nil)))))
    refine dss_cons ?_ ?_
    · exact ds_fld C.k_Panel (by decide) (de_v 1 (pv 1)) (de_fld C.k_Panel (by decide) (de_v 0 (pv 0)))
    refine dss_cons ?_ ?_
    · exact ds_fld C.k_Panel (by decide) (de_v 1 (pv 1)) (de_callTy c_list (by exact rfl) B.list bb_list (da_cons (de_fld C.k_Panel (by decide) (de_v 0 (pv 0))) da_nil))
    refine dss_cons ?_ ?_
    · exact ds_fld C.k_Panel (by decide) (de_v 1 (pv 1)) (de_callTy c_list (by exact rfl) B.list bb_list (da_cons (de_fld C.k_Panel (by decide) (de_v 0 (pv 0))) da_nil))
    refine dss_one ?_
    refine ds_ret ?_
    exact (de_v 1 (pv 1))
theorem ok_Panel_twin {f : Addr} {fd : FuncData} (F : Fun K "twin" "Panel.twin" st_Panel_twin f fd) (hb : Binds K fd ["self"] []) (hm : Meth K (cl "Panel") "twin" f) (B : Bt mg) (C : Ct K mg cl) (d_Panel_init : DfC P w K mg base cl 6 "Panel" ["self", "house", "leaving", "entering", "ringing"] m_Panel_init) : DfM P w K mg base cl 8 "Panel" "twin" ["self"] m_Panel_twin :=
  ⟨f, fd, fn_Panel_twin F B C d_Panel_init, hm, hb⟩
abbrev st_Guard_shown : Stmt := inClass (topS 45) 9
abbrev nm_Guard_shown : List Str := ["self"]
def ss_Guard_shown : Scope := scp [(("self" : Str), NameKind.local)] []
theorem sc_Guard_shown : FnScope nm_Guard_shown ["self"] ss_Guard_shown := ⟨rfl, rfl, rfl, by decide +kernel, rfl, by decide +kernel, by decide +kernel⟩
theorem fn_Guard_shown {f : Addr} {fd : FuncData} (F : Fun K "shown" "Guard.shown" st_Guard_shown f fd) (B : Bt mg) (C : Ct K mg cl) (d_Panel_twin : DfM P w K mg base cl 8 "Panel" "twin" ["self"] m_Panel_twin) : FnOk P w K mg base (L2.CX P w) 9 f fd ["self"] (spM K cl 1 m_Guard_shown) :=
  Fun.fn (k := 8) (g := g_Guard_shown) F (by rfl) (sc := ss_Guard_shown) (by rfl) (by rfl) sc_Guard_shown fun cdv A outer s H E e hr => by
    refine dss_one ?_
    refine ds_ret ?_
    exact (de_meth0 d_Panel_twin C.k_Panel hr (by decide) (by exact takes_of rfl rfl rfl rfl) (de_fld C.k_Guard (by decide) (de_v 0 (pv 0))))
theorem ok_Guard_shown {f : Addr} {fd : FuncData} (F : Fun K "shown" "Guard.shown" st_Guard_shown f fd) (hb : Binds K fd ["self"] []) (hm : Meth K (cl "Guard") "shown" f) (B : Bt mg) (C : Ct K mg cl) (d_Panel_twin : DfM P w K mg base cl 8 "Panel" "twin" ["self"] m_Panel_twin) : DfM P w K mg base cl 9 "Guard" "shown" ["self"] m_Guard_shown :=
  ⟨f, fd, fn_Guard_shown F B C d_Panel_twin, hm, hb⟩
abbrev st_Panel_clock : Stmt := inClass (topS 43) 17
abbrev nm_Panel_clock : List Str := ["self"]
def ss_Panel_clock : Scope := scp [(("self" : Str), NameKind.local)] []
theorem sc_Panel_clock : FnScope nm_Panel_clock ["self"] ss_Panel_clock := ⟨rfl, rfl, rfl, by decide +kernel, rfl, by decide +kernel, by decide +kernel⟩
theorem fn_Panel_clock {f : Addr} {fd : FuncData} (F : Fun K "clock" "Panel.clock" st_Panel_clock f fd) (B : Bt mg) (C : Ct K mg cl) : FnOk P w K mg base (L2.CX P w) 1 f fd ["self"] (spM K cl 1 m_Panel_clock) :=
  Fun.fn (k := 0) (g := g_Panel_clock) F (by rfl) (sc := ss_Panel_clock) (by rfl) (by rfl) sc_Panel_clock fun cdv A outer s H E e hr => by
    refine dss_one ?_
    refine ds_ret ?_
    exact (de_fld C.k_Stand (by decide) (de_fld C.k_Panel (by decide) (de_v 0 (pv 0))))
theorem ok_Panel_clock {f : Addr} {fd : FuncData} (F : Fun K "clock" "Panel.clock" st_Panel_clock f fd) (hb : Binds K fd ["self"] []) (hm : Meth K (cl "Panel") "clock" f) (B : Bt mg) (C : Ct K mg cl) : DfM P w K mg base cl 1 "Panel" "clock" ["self"] m_Panel_clock :=
  ⟨f, fd, fn_Panel_clock F B C, hm, hb⟩
abbrev st_Guard_need_time : Stmt := inClass (topS 45) 3
abbrev nm_Guard_need_time : List Str := ["self", "moment"]
def ss_Guard_need_time : Scope := scp [(("self" : Str), NameKind.local), (("moment" : Str), NameKind.local), (("NoTime" : Str), NameKind.globalImplicit)] []
theorem sc_Guard_need_time : FnScope nm_Guard_need_time ["self", "moment"] ss_Guard_need_time := ⟨rfl, rfl, rfl, by decide +kernel, rfl, by decide +kernel, by decide +kernel⟩
theorem fn_Guard_need_time {f : Addr} {fd : FuncData} (F : Fun K "need_time" "Guard.need_time" st_Guard_need_time f fd) (B : Bt mg) (C : Ct K mg cl) (d_Panel_clock : DfM P w K mg base cl 1 "Panel" "clock" ["self"] m_Panel_clock) : FnOk P w K mg base (L2.CX P w) 2 f fd ["self", "moment"] (spM K cl 2 m_Guard_need_time) :=
  Fun.fn (k := 1) (g := g_Guard_need_time) F (by rfl) (sc := ss_Guard_need_time) (by rfl) (by rfl) sc_Guard_need_time fun cdv A outer s H E e hr => by
    refine dss_one ?_
    refine ds_if ?_ ?_ ?_
    · exact (dt_cmp (o_lt (u64 hr)) (de_v 1 (pv 1)) (de_meth0 d_Panel_clock C.k_Panel hr (by decide) (by exact takes_of rfl rfl rfl rfl) (de_fld C.k_Guard (by decide) (de_v 0 (pv 0)))) (nomark _))
    · refine dss_one ?_
      exact ds_raise C.x_NoTime (by exact rfl) (by exact takes_of rfl rfl rfl rfl) (by exact rfl)
    · exact dss_nil
theorem ok_Guard_need_time {f : Addr} {fd : FuncData} (F : Fun K "need_time" "Guard.need_time" st_Guard_need_time f fd) (hb : Binds K fd ["self", "moment"] []) (hm : Meth K (cl "Guard") "need_time" f) (B : Bt mg) (C : Ct K mg cl) (d_Panel_clock : DfM P w K mg base cl 1 "Panel" "clock" ["self"] m_Panel_clock) : DfM P w K mg base cl 2 "Guard" "need_time" ["self", "moment"] m_Guard_need_time :=
  ⟨f, fd, fn_Guard_need_time F B C d_Panel_clock, hm, hb⟩
abbrev st_Codes_locked_at : Stmt := inClass (topS 23) 5
abbrev nm_Codes_locked_at : List Str := ["self", "moment"]
def ss_Codes_locked_at : Scope := scp [(("self" : Str), NameKind.local), (("moment" : Str), NameKind.local)] []
theorem sc_Codes_locked_at : FnScope nm_Codes_locked_at ["self", "moment"] ss_Codes_locked_at := ⟨rfl, rfl, rfl, by decide +kernel, rfl, by decide +kernel, by decide +kernel⟩
theorem fn_Codes_locked_at {f : Addr} {fd : FuncData} (F : Fun K "locked_at" "Codes.locked_at" st_Codes_locked_at f fd) (B : Bt mg) (C : Ct K mg cl) : FnOk P w K mg base (L2.CX P w) 1 f fd ["self", "moment"] (spM K cl 2 m_Codes_locked_at) :=
  Fun.fn (k := 0) (g := g_Codes_locked_at) F (by rfl) (sc := ss_Codes_locked_at) (by rfl) (by rfl) sc_Codes_locked_at fun cdv A outer s H E e hr => by
    refine dss_one ?_
    refine ds_ret ?_
    exact (de_chain o_le (o_lt (u64 hr)) (de_fld C.k_Codes (by decide) (de_v 0 (pv 0))) (de_v 1 (pv 1)) (de_fld C.k_Codes (by decide) (de_v 0 (pv 0))))
theorem ok_Codes_locked_at {f : Addr} {fd : FuncData} (F : Fun K "locked_at" "Codes.locked_at" st_Codes_locked_at f fd) (hb : Binds K fd ["self", "moment"] []) (hm : Meth K (cl "Codes") "locked_at" f) (B : Bt mg) (C : Ct K mg cl) : DfM P w K mg base cl 1 "Codes" "locked_at" ["self", "moment"] m_Codes_locked_at :=
  ⟨f, fd, fn_Codes_locked_at F B C, hm, hb⟩
abbrev st_Codes_ask : Stmt := inClass (topS 23) 6
abbrev nm_Codes_ask : List Str := ["self", "code", "moment", "right", "name"]
def ss_Codes_ask : Scope := scp [(("self" : Str), NameKind.local), (("code" : Str), NameKind.local), (("moment" : Str), NameKind.local), (("right" : Str), NameKind.local), (("name" : Str), NameKind.local), (("NoTime" : Str), NameKind.globalImplicit), (("Locked" : Str), NameKind.globalImplicit), (("Wrong" : Str), NameKind.globalImplicit), (("NoRight" : Str), NameKind.globalImplicit)] []
theorem sc_Codes_ask : FnScope nm_Codes_ask ["self", "code", "moment", "right"] ss_Codes_ask := ⟨rfl, rfl, rfl, by decide +kernel, rfl, by decide +kernel, by decide +kernel⟩
theorem fn_Codes_ask {f : Addr} {fd : FuncData} (F : Fun K "ask" "Codes.ask" st_Codes_ask f fd) (B : Bt mg) (C : Ct K mg cl) (d_Codes_locked_at : DfM P w K mg base cl 1 "Codes" "locked_at" ["self", "moment"] m_Codes_locked_at) (d_Codes_who : DfM P w K mg base cl 1 "Codes" "who" ["self", "code"] m_Codes_who) : FnOk P w K mg base (L2.CX P w) 2 f fd ["self", "code", "moment", "right"] (spM K cl 4 m_Codes_ask) :=
  Fun.fn (k := 1) (g := g_Codes_ask) F (by rfl) (sc := ss_Codes_ask) (by rfl) (by rfl) sc_Codes_ask fun cdv A outer s H E e hr => by
    refine dss_cons ?_ ?_
    · refine ds_if ?_ ?_ ?_
      · exact (dt_cmp (o_lt (u64 hr)) (de_v 2 (pv 2)) (de_fld C.k_Codes (by decide) (de_v 0 (pv 0))) (nomark _))
      · refine dss_one ?_
        exact ds_raise C.x_NoTime (by exact rfl) (by exact takes_of rfl rfl rfl rfl) (by exact rfl)
      · exact dss_nil
    refine dss_cons ?_ ?_
    · refine ds_if ?_ ?_ ?_
      · exact (dt_val (de_meth d_Codes_locked_at C.k_Codes hr (by decide) (by exact takes_of rfl rfl rfl rfl) (de_v 0 (pv 0)) (da_cons (de_v 2 (pv 2)) da_nil)))
      · refine dss_one ?_
        exact ds_raise C.x_Locked (by exact rfl) (by exact takes_of rfl rfl rfl rfl) (by exact rfl)
      · exact dss_nil
    refine dss_cons ?_ ?_
    · exact ds_fld C.k_Codes (by decide) (de_v 0 (pv 0)) (de_v 2 (pv 2))
    refine dss_cons ?_ ?_
    · refine ds_set (i := 4) sc_Codes_ask.nd (by exact rfl) (by exact (Or.inl rfl)) ?_
      exact (de_meth d_Codes_who C.k_Codes hr (by decide) (by exact takes_of rfl rfl rfl rfl) (de_v 0 (pv 0)) (da_cons (de_v 1 (pv 1)) da_nil))
    refine dss_cons ?_ ?_
    · refine ds_if ?_ ?_ ?_
      · exact (dt_cmp o_is (de_v 4 (pv 4)) de_non (nomark _))
      · refine dss_cons ?_ ?_
        · exact ds_fld C.k_Codes (by decide) (de_v 0 (pv 0)) (de_bin o_add (de_fld C.k_Codes (by decide) (de_v 0 (pv 0))) de_int)
        refine dss_cons ?_ ?_
        · refine ds_if ?_ ?_ ?_
          · exact (dt_cmp o_ge (de_fld C.k_Codes (by decide) (de_v 0 (pv 0))) (de_fld C.k_Codes (by decide) (de_v 0 (pv 0))) (nomark _))
          · refine dss_cons ?_ ?_
            · exact ds_fld C.k_Codes (by decide) (de_v 0 (pv 0)) de_int
            refine dss_cons ?_ ?_
            · exact ds_fld C.k_Codes (by decide) (de_v 0 (pv 0)) (de_v 2 (pv 2))
            refine dss_one ?_
            exact ds_fld C.k_Codes (by decide) (de_v 0 (pv 0)) (de_bin o_add (de_v 2 (pv 2)) (de_fld C.k_Codes (by decide) (de_v 0 (pv 0))))
          · exact dss_nil
        refine dss_one ?_
        exact ds_raise C.x_Wrong (by exact rfl) (by exact takes_of rfl rfl rfl rfl) (by exact rfl)
      · exact dss_nil
    refine dss_cons ?_ ?_
    · exact ds_fld C.k_Codes (by decide) (de_v 0 (pv 0)) de_int
    refine dss_cons ?_ ?_
    · refine ds_if ?_ ?_ ?_
      · exact (dt_cmp (o_notinX (u65 hr)) (de_v 3 (pv 3)) (de_ix (u1 hr) (de_ix (u1 hr) (de_fld C.k_Codes (by decide) (de_v 0 (pv 0))) (de_v 4 (pv 4))) de_int) (by exact rfl))
      · refine dss_one ?_
        exact ds_raise C.x_NoRight (by exact rfl) (by exact takes_of rfl rfl rfl rfl) (by exact rfl)
      · exact dss_nil
    refine dss_one ?_
    refine ds_ret ?_
    exact (de_v 4 (pv 4))
theorem ok_Codes_ask {f : Addr} {fd : FuncData} (F : Fun K "ask" "Codes.ask" st_Codes_ask f fd) (hb : Binds K fd ["self", "code", "moment", "right"] []) (hm : Meth K (cl "Codes") "ask" f) (B : Bt mg) (C : Ct K mg cl) (d_Codes_locked_at : DfM P w K mg base cl 1 "Codes" "locked_at" ["self", "moment"] m_Codes_locked_at) (d_Codes_who : DfM P w K mg base cl 1 "Codes" "who" ["self", "code"] m_Codes_who) : DfM P w K mg base cl 2 "Codes" "ask" ["self", "code", "moment", "right"] m_Codes_ask :=
  ⟨f, fd, fn_Codes_ask F B C d_Codes_locked_at d_Codes_who, hm, hb⟩
abbrev st_Stand_copy : Stmt := inClass (topS 42) 1
abbrev nm_Stand_copy : List Str := ["self", "found"]
def ss_Stand_copy : Scope := scp [(("self" : Str), NameKind.local), (("found" : Str), NameKind.local), (("Stand" : Str), NameKind.globalImplicit)] []
theorem sc_Stand_copy : FnScope nm_Stand_copy ["self"] ss_Stand_copy := ⟨rfl, rfl, rfl, by decide +kernel, rfl, by decide +kernel, by decide +kernel⟩
theorem fn_Stand_copy {f : Addr} {fd : FuncData} (F : Fun K "copy" "Stand.copy" st_Stand_copy f fd) (B : Bt mg) (C : Ct K mg cl) (d_Stand_init : DfC P w K mg base cl 1 "Stand" ["self"] m_Stand_init) : FnOk P w K mg base (L2.CX P w) 3 f fd ["self"] (spM K cl 1 m_Stand_copy) :=
  Fun.fn (k := 2) (g := g_Stand_copy) F (by rfl) (sc := ss_Stand_copy) (by rfl) (by rfl) sc_Stand_copy fun cdv A outer s H E e hr => by
    refine dss_cons ?_ ?_
    · refine ds_set (i := 1) sc_Stand_copy.nd (by exact rfl) (by exact (Or.inl rfl)) ?_
      exact (de_make0 d_Stand_init hr (by decide) (by exact rfl) (by exact takes_of rfl rfl rfl rfl))
    refine dss_cons ?_ ?_
    · exact ds_fld C.k_Stand (by decide) (de_v 1 (pv 1)) (de_fld C.k_Stand (by decide) (de_v 0 (pv 0)))
    refine dss_cons ?_ ?_
    · exact ds_fld C.k_Stand (by decide) (de_v 1 (pv 1)) (de_fld C.k_Stand (by decide) (de_v 0 (pv 0)))
    refine dss_cons ?_ ?_
    · exact ds_fld C.k_Stand (by decide) (de_v 1 (pv 1)) (de_fld C.k_Stand (by decide) (de_v 0 (pv 0)))
    refine dss_cons ?_ ?_
    · exact ds_fld C.k_Stand (by decide) (de_v 1 (pv 1)) (de_fld C.k_Stand (by decide) (de_v 0 (pv 0)))
    refine dss_cons ?_ ?_
    · exact ds_fld C.k_Stand (by decide) (de_v 1 (pv 1)) (de_fld C.k_Stand (by decide) (de_v 0 (pv 0)))
    refine dss_cons ?_ ?_
    · exact ds_fld C.k_Stand (by decide) (de_v 1 (pv 1)) (de_fld C.k_Stand (by decide) (de_v 0 (pv 0)))
    refine dss_cons ?_ ?_
    · exact ds_fld C.k_Stand (by decide) (de_v 1 (pv 1)) (de_fld C.k_Stand (by decide) (de_v 0 (pv 0)))
    refine dss_cons ?_ ?_
    · exact ds_fld C.k_Stand (by decide) (de_v 1 (pv 1)) (de_fld C.k_Stand (by decide) (de_v 0 (pv 0)))
    refine dss_cons ?_ ?_
    · exact ds_fld C.k_Stand (by decide) (de_v 1 (pv 1)) (de_fld C.k_Stand (by decide) (de_v 0 (pv 0)))
    refine dss_one ?_
    refine ds_ret ?_
    exact (de_v 1 (pv 1))
theorem ok_Stand_copy {f : Addr} {fd : FuncData} (F : Fun K "copy" "Stand.copy" st_Stand_copy f fd) (hb : Binds K fd ["self"] []) (hm : Meth K (cl "Stand") "copy" f) (B : Bt mg) (C : Ct K mg cl) (d_Stand_init : DfC P w K mg base cl 1 "Stand" ["self"] m_Stand_init) : DfM P w K mg base cl 3 "Stand" "copy" ["self"] m_Stand_copy :=
  ⟨f, fd, fn_Stand_copy F B C d_Stand_init, hm, hb⟩
abbrev st_Panel_ring : Stmt := inClass (topS 43) 2
abbrev nm_Panel_ring : List Str := ["self", "now", "eye", "moment"]
def ss_Panel_ring : Scope := scp [(("self" : Str), NameKind.local), (("now" : Str), NameKind.local), (("eye" : Str), NameKind.local), (("moment" : Str), NameKind.local)] []
theorem sc_Panel_ring : FnScope nm_Panel_ring ["self", "now", "eye", "moment"] ss_Panel_ring := ⟨rfl, rfl, rfl, by decide +kernel, rfl, by decide +kernel, by decide +kernel⟩
theorem fn_Panel_ring {f : Addr} {fd : FuncData} (F : Fun K "ring" "Panel.ring" st_Panel_ring f fd) (B : Bt mg) (C : Ct K mg cl) : FnOk P w K mg base (L2.CX P w) 1 f fd ["self", "now", "eye", "moment"] (spM K cl 4 m_Panel_ring) :=
  Fun.fn (k := 0) (g := g_Panel_ring) F (by rfl) (sc := ss_Panel_ring) (by rfl) (by rfl) sc_Panel_ring fun cdv A outer s H E e hr => by
    refine dss_cons ?_ ?_
    · refine ds_if ?_ ?_ ?_
      · exact (dt_cmp (o_ne (u64 hr)) (de_fld C.k_Stand (by decide) (de_v 1 (pv 1))) de_str (nomark _))
      · refine dss_cons ?_ ?_
        · exact ds_fld C.k_Stand (by decide) (de_v 1 (pv 1)) (de_bin o_add (de_fld C.k_Stand (by decide) (de_v 1 (pv 1))) (de_tup (da_cons (de_tup (da_cons (de_v 3 (pv 3)) (da_cons de_non (da_cons (de_v 2 (pv 2)) da_nil)))) da_nil)))
        refine dss_one ?_
        exact ds_fld C.k_Stand (by decide) (de_v 1 (pv 1)) de_str
      · exact dss_nil
    refine dss_one ?_
    exact ds_fld C.k_Stand (by decide) (de_v 1 (pv 1)) (de_bin o_add (de_v 3 (pv 3)) (de_fld C.k_Panel (by decide) (de_v 0 (pv 0))))
theorem ok_Panel_ring {f : Addr} {fd : FuncData} (F : Fun K "ring" "Panel.ring" st_Panel_ring f fd) (hb : Binds K fd ["self", "now", "eye", "moment"] []) (hm : Meth K (cl "Panel") "ring" f) (B : Bt mg) (C : Ct K mg cl) : DfM P w K mg base cl 1 "Panel" "ring" ["self", "now", "eye", "moment"] m_Panel_ring :=
  ⟨f, fd, fn_Panel_ring F B C, hm, hb⟩
abbrev st_Panel_hush : Stmt := inClass (topS 43) 3
abbrev nm_Panel_hush : List Str := ["self", "now", "moment", "start", "end", "eye"]
def ss_Panel_hush : Scope := scp [(("self" : Str), NameKind.local), (("now" : Str), NameKind.local), (("moment" : Str), NameKind.local), (("start" : Str), NameKind.local), (("end" : Str), NameKind.local), (("eye" : Str), NameKind.local)] []
theorem sc_Panel_hush : FnScope nm_Panel_hush ["self", "now", "moment"] ss_Panel_hush := ⟨rfl, rfl, rfl, by decide +kernel, rfl, by decide +kernel, by decide +kernel⟩
theorem fn_Panel_hush {f : Addr} {fd : FuncData} (F : Fun K "hush" "Panel.hush" st_Panel_hush f fd) (B : Bt mg) (C : Ct K mg cl) : FnOk P w K mg base (L2.CX P w) 1 f fd ["self", "now", "moment"] (spM K cl 3 m_Panel_hush) :=
  Fun.fn (k := 0) (g := g_Panel_hush) F (by rfl) (sc := ss_Panel_hush) (by rfl) (by rfl) sc_Panel_hush fun cdv A outer s H E e hr => by
    refine dss_cons ?_ ?_
    · refine ds_asg ?_ ?_
      · exact (de_ix (u1 hr) (de_fld C.k_Stand (by decide) (de_v 1 (pv 1))) (de_neg de_int))
      · exact (dg_tup (by exact rfl) (dgs_cons (dg_name (i := 3) sc_Panel_hush.nd (by exact rfl) (by exact (Or.inl rfl))) (dgs_cons (dg_name (i := 4) sc_Panel_hush.nd (by exact rfl) (by exact (Or.inl rfl))) (dgs_cons (dg_name (i := 5) sc_Panel_hush.nd (by exact rfl) (by exact (Or.inl rfl))) dgs_nil))))
    refine dss_one ?_
    exact ds_fld C.k_Stand (by decide) (de_v 1 (pv 1)) (de_bin o_add (de_cut (de_fld C.k_Stand (by decide) (de_v 1 (pv 1))) do_none (do_some (de_neg de_int))) (de_tup (da_cons (de_tup (da_cons (de_v 3 (pv 3)) (da_cons (de_v 2 (pv 2)) (da_cons (de_v 5 (pv 5)) da_nil)))) da_nil)))
theorem ok_Panel_hush {f : Addr} {fd : FuncData} (F : Fun K "hush" "Panel.hush" st_Panel_hush f fd) (hb : Binds K fd ["self", "now", "moment"] []) (hm : Meth K (cl "Panel") "hush" f) (B : Bt mg) (C : Ct K mg cl) : DfM P w K mg base cl 1 "Panel" "hush" ["self", "now", "moment"] m_Panel_hush :=
  ⟨f, fd, fn_Panel_hush F B C, hm, hb⟩
abbrev st_evers : Stmt := topS 39
abbrev nm_evers : List Str := ["house", "number", "eye"]
def ss_evers : Scope := scp [(("house" : Str), NameKind.local), (("enumerate" : Str), NameKind.globalImplicit)] [(("fast" : Str), Const.str "house"), (("fast" : Str), Const.str "number"), (("fast" : Str), Const.str "eye")]
theorem sc_evers : FnScope nm_evers ["house"] ss_evers := ⟨rfl, rfl, rfl, by decide +kernel, rfl, by decide +kernel, by decide +kernel⟩
theorem fn_evers {f : Addr} {fd : FuncData} (F : Fun K "evers" "evers" st_evers f fd) (B : Bt mg) (C : Ct K mg cl) : FnOk P w K mg base (L2.CX P w) 1 f fd ["house"] (spM K cl 1 m_evers) :=
  Fun.fn (k := 0) (g := g_evers) F (by rfl) (sc := ss_evers) (by rfl) (by rfl) sc_evers fun cdv A outer s H E e hr => by
    refine dss_one ?_
    refine ds_ret ?_
    exact (DL.de (dl_comp (by exact rfl) sc_evers.nd (di_enum (by exact rfl) B.enumerate (da_cons (de_ix (u1 hr) (de_v 0 (pv 0)) de_int) da_nil)) (by exact blkOk_by (N := nm_evers) (sc := ss_evers) (own := [("number", 1), ("eye", 2)]) (by decide +kernel)) (fun _ _ _ _ _ => (eg_tup (by exact rfl) (egs_cons (eg_name (i := 1) (by decide) sc_evers.nd (by exact rfl) (by first | exact Or.inl rfl | exact Or.inr rfl)) (egs_cons (eg_name (i := 2) (by decide) sc_evers.nd (by exact rfl) (by first | exact Or.inl rfl | exact Or.inr rfl)) egs_nil)))) (fun _ _ _ _ _ => (dts_one (dt_cmp (o_eq (u64 hr)) (de_ix (u1 hr) (de_v 2 (pv 2)) de_int) de_str (nomark _)))) (fun _ _ _ _ _ => (de_v 1 (pv 1)))))
theorem ok_evers {f : Addr} {fd : FuncData} (F : Fun K "evers" "evers" st_evers f fd) (hb : Binds K fd ["house"] []) (hm : mg "evers" = some (.ref f)) (B : Bt mg) (C : Ct K mg cl) : Df P w K mg base cl 1 "evers" ["house"] m_evers :=
  ⟨f, fd, fn_evers F B C, hm, F.kp, hb⟩
abbrev st_Panel_eyes_by : Stmt := inClass (topS 43) 1
abbrev nm_Panel_eyes_by : List Str := ["self", "now", "some", "eye"]
def ss_Panel_eyes_by : Scope := scp [(("self" : Str), NameKind.local), (("now" : Str), NameKind.cell), (("some" : Str), NameKind.local), (("list" : Str), NameKind.globalImplicit), (("evers" : Str), NameKind.globalImplicit), (("sorted" : Str), NameKind.globalImplicit), (("set" : Str), NameKind.globalImplicit)] [(("fast" : Str), Const.str "self"), (("fast" : Str), Const.str "now"), (("fast" : Str), Const.str "some"), (("fast" : Str), Const.str "eye")]
theorem sc_Panel_eyes_by : FnScope nm_Panel_eyes_by ["self", "now"] ss_Panel_eyes_by := ⟨rfl, rfl, rfl, by decide +kernel, rfl, by decide +kernel, by decide +kernel⟩
theorem fn_Panel_eyes_by {f : Addr} {fd : FuncData} (F : Fun K "eyes_by" "Panel.eyes_by" st_Panel_eyes_by f fd) (B : Bt mg) (C : Ct K mg cl) (d_evers : Df P w K mg base cl 1 "evers" ["house"] m_evers) : FnOk P w K mg base (L2.CX P w) 2 f fd ["self", "now"] (spM K cl 2 m_Panel_eyes_by) :=
  Fun.fn (k := 1) (g := g_Panel_eyes_by) F (by rfl) (sc := ss_Panel_eyes_by) (by rfl) (by rfl) sc_Panel_eyes_by fun cdv A outer s H E e hr => by
    refine dss_cons ?_ ?_
    · refine ds_set (i := 2) sc_Panel_eyes_by.nd (by exact rfl) (by exact (Or.inl rfl)) ?_
      exact (de_callTy c_list (by exact rfl) B.list bb_list (da_cons (de_call d_evers hr (by decide) (by exact rfl) (by exact takes_of rfl rfl rfl rfl) (da_cons (de_fld C.k_Panel (by decide) (de_v 0 (pv 0))) da_nil)) da_nil))
    refine dss_cons ?_ ?_
    · refine ds_if ?_ ?_ ?_
      · exact (dt_cmp o_isnot (de_fld C.k_Stand (by decide) (de_v 1 (pv 1))) de_non (nomark _))
      · refine dss_one ?_
        refine ds_set (i := 2) sc_Panel_eyes_by.nd (by exact rfl) (by exact (Or.inl rfl)) ?_
        exact (de_bin o_add (de_v 2 (pv 2)) (DL.de (dl_comp (by exact rfl) sc_Panel_eyes_by.nd (di_seq (de_ix (u1 hr) (de_ix (u1 hr) (de_fld C.k_Panel (by decide) (de_v 0 (pv 0))) de_int) (de_fld C.k_Stand (by decide) (de_v 1 (pv 1))))) (by exact blkOk_by (N := nm_Panel_eyes_by) (sc := ss_Panel_eyes_by) (own := [("eye", 3)]) (by decide +kernel)) (fun _ _ _ _ _ => (eg_name (i := 3) (by decide) sc_Panel_eyes_by.nd (by exact rfl) (by first | exact Or.inl rfl | exact Or.inr rfl))) (fun _ _ _ _ _ => (dts_one (dt_cmp (o_notinX (u65 hr)) (de_v 3 (pv 3)) (de_fld C.k_Stand (by decide) (de_v 1 (pv 1))) (by exact rfl)))) (fun _ _ _ _ _ => (de_v 3 (pv 3))))))
      · exact dss_nil
    refine dss_one ?_
    refine ds_ret ?_
    exact (de_sortedSet (by exact rfl) (u64 hr) (by exact rfl) B.sorted (by exact rfl) B.set (da_cons (de_v 2 (pv 2)) da_nil))
theorem ok_Panel_eyes_by {f : Addr} {fd : FuncData} (F : Fun K "eyes_by" "Panel.eyes_by" st_Panel_eyes_by f fd) (hb : Binds K fd ["self", "now"] []) (hm : Meth K (cl "Panel") "eyes_by" f) (B : Bt mg) (C : Ct K mg cl) (d_evers : Df P w K mg base cl 1 "evers" ["house"] m_evers) : DfM P w K mg base cl 2 "Panel" "eyes_by" ["self", "now"] m_Panel_eyes_by :=
  ⟨f, fd, fn_Panel_eyes_by F B C d_evers, hm, hb⟩
abbrev st_Panel_trip : Stmt := inClass (topS 43) 4
abbrev nm_Panel_trip : List Str := ["self", "now", "eye", "moment", "how"]
def ss_Panel_trip : Scope := scp [(("self" : Str), NameKind.local), (("now" : Str), NameKind.local), (("eye" : Str), NameKind.local), (("moment" : Str), NameKind.local), (("how" : Str), NameKind.local)] []
theorem sc_Panel_trip : FnScope nm_Panel_trip ["self", "now", "eye", "moment"] ss_Panel_trip := ⟨rfl, rfl, rfl, by decide +kernel, rfl, by decide +kernel, by decide +kernel⟩
theorem fn_Panel_trip {f : Addr} {fd : FuncData} (F : Fun K "trip" "Panel.trip" st_Panel_trip f fd) (B : Bt mg) (C : Ct K mg cl) (d_Panel_ring : DfM P w K mg base cl 1 "Panel" "ring" ["self", "now", "eye", "moment"] m_Panel_ring) (d_Panel_eyes_by : DfM P w K mg base cl 2 "Panel" "eyes_by" ["self", "now"] m_Panel_eyes_by) : FnOk P w K mg base (L2.CX P w) 3 f fd ["self", "now", "eye", "moment"] (spM K cl 4 m_Panel_trip) :=
  Fun.fn (k := 2) (g := g_Panel_trip) F (by rfl) (sc := ss_Panel_trip) (by rfl) (by rfl) sc_Panel_trip fun cdv A outer s H E e hr => by
    refine dss_cons ?_ ?_
    · refine ds_set (i := 4) sc_Panel_trip.nd (by exact rfl) (by exact (Or.inl rfl)) ?_
      exact (de_ix (u1 hr) (de_ix (u1 hr) (de_ix (u1 hr) (de_fld C.k_Panel (by decide) (de_v 0 (pv 0))) de_int) (de_v 2 (pv 2))) de_int)
    refine dss_one ?_
    refine ds_if ?_ ?_ ?_
    · exact (dt_cmp (o_eq (u64 hr)) (de_v 4 (pv 4)) de_str (nomark _))
    · refine dss_one ?_
      refine ds_expr ?_
      exact (de_meth d_Panel_ring C.k_Panel hr (by decide) (by exact takes_of rfl rfl rfl rfl) (de_v 0 (pv 0)) (da_cons (de_v 1 (pv 1)) (da_cons (de_v 2 (pv 2)) (da_cons (de_v 3 (pv 3)) da_nil))))
    · refine dss_one ?_
      refine ds_if ?_ ?_ ?_
      · exact (DW.pt (dw_and (dt_cmp (o_inX (u65 hr)) (de_v 2 (pv 2)) (de_meth d_Panel_eyes_by C.k_Panel hr (by decide) (by exact takes_of rfl rfl rfl rfl) (de_v 0 (pv 0)) (da_cons (de_v 1 (pv 1)) da_nil)) (by exact rfl)) (dw_and1 (dt_cmp (o_inX (u65 hr)) (de_fld C.k_Stand (by decide) (de_v 1 (pv 1))) (de_tup (da_cons de_str (da_cons de_str (da_cons de_str da_nil)))) (by exact rfl)))))
      · refine dss_one ?_
        refine ds_if ?_ ?_ ?_
        · exact (DW.pt (dw_and (dt_cmp (o_eq (u64 hr)) (de_fld C.k_Stand (by decide) (de_v 1 (pv 1))) de_str (nomark _)) (dw_and (dt_cmp (o_eq (u64 hr)) (de_v 4 (pv 4)) de_str (nomark _)) (dw_and1 (dt_cmp o_gt (de_fld C.k_Panel (by decide) (de_v 0 (pv 0))) de_int (nomark _))))))
        · refine dss_cons ?_ ?_
          · exact ds_fld C.k_Stand (by decide) (de_v 1 (pv 1)) de_str
          refine dss_cons ?_ ?_
          · exact ds_fld C.k_Stand (by decide) (de_v 1 (pv 1)) (de_bin o_add (de_v 3 (pv 3)) (de_fld C.k_Panel (by decide) (de_v 0 (pv 0))))
          refine dss_one ?_
          exact ds_fld C.k_Stand (by decide) (de_v 1 (pv 1)) (de_v 2 (pv 2))
        · refine dss_one ?_
          refine ds_if ?_ ?_ ?_
          · exact (DW.pt (dw_or (dt_cmp (o_ne (u64 hr)) (de_fld C.k_Stand (by decide) (de_v 1 (pv 1))) de_str (nomark _)) (dw_or1 (dt_cmp (o_eq (u64 hr)) (de_v 4 (pv 4)) de_str (nomark _)))))
          · refine dss_one ?_
            refine ds_expr ?_
            exact (de_meth d_Panel_ring C.k_Panel hr (by decide) (by exact takes_of rfl rfl rfl rfl) (de_v 0 (pv 0)) (da_cons (de_v 1 (pv 1)) (da_cons (de_v 2 (pv 2)) (da_cons (de_v 3 (pv 3)) da_nil))))
          · exact dss_nil
      · exact dss_nil
theorem ok_Panel_trip {f : Addr} {fd : FuncData} (F : Fun K "trip" "Panel.trip" st_Panel_trip f fd) (hb : Binds K fd ["self", "now", "eye", "moment"] []) (hm : Meth K (cl "Panel") "trip" f) (B : Bt mg) (C : Ct K mg cl) (d_Panel_ring : DfM P w K mg base cl 1 "Panel" "ring" ["self", "now", "eye", "moment"] m_Panel_ring) (d_Panel_eyes_by : DfM P w K mg base cl 2 "Panel" "eyes_by" ["self", "now"] m_Panel_eyes_by) : DfM P w K mg base cl 3 "Panel" "trip" ["self", "now", "eye", "moment"] m_Panel_trip :=
  ⟨f, fd, fn_Panel_trip F B C d_Panel_ring d_Panel_eyes_by, hm, hb⟩
abbrev st_Panel_turn_by_time : Stmt := inClass (topS 43) 5
abbrev nm_Panel_turn_by_time : List Str := ["self", "now", "moment", "eye", "what", "number", "how"]
def ss_Panel_turn_by_time : Scope := scp [(("self" : Str), NameKind.local), (("now" : Str), NameKind.local), (("moment" : Str), NameKind.local), (("eye" : Str), NameKind.local), (("what" : Str), NameKind.local), (("number" : Str), NameKind.local), (("how" : Str), NameKind.local)] []
theorem sc_Panel_turn_by_time : FnScope nm_Panel_turn_by_time ["self", "now"] ss_Panel_turn_by_time := ⟨rfl, rfl, rfl, by decide +kernel, rfl, by decide +kernel, by decide +kernel⟩
theorem fn_Panel_turn_by_time {f : Addr} {fd : FuncData} (F : Fun K "turn_by_time" "Panel.turn_by_time" st_Panel_turn_by_time f fd) (B : Bt mg) (C : Ct K mg cl) (d_Panel_ring : DfM P w K mg base cl 1 "Panel" "ring" ["self", "now", "eye", "moment"] m_Panel_ring) (d_Panel_hush : DfM P w K mg base cl 1 "Panel" "hush" ["self", "now", "moment"] m_Panel_hush) (d_Panel_eyes_by : DfM P w K mg base cl 2 "Panel" "eyes_by" ["self", "now"] m_Panel_eyes_by) (d_Panel_trip : DfM P w K mg base cl 3 "Panel" "trip" ["self", "now", "eye", "moment"] m_Panel_trip) : FnOk P w K mg base (L2.CX P w) 4 f fd ["self", "now"] (spM K cl 2 m_Panel_turn_by_time) :=
  Fun.fn (k := 3) (g := g_Panel_turn_by_time) F (by rfl) (sc := ss_Panel_turn_by_time) (by rfl) (by rfl) sc_Panel_turn_by_time fun cdv A outer s H E e hr => by
    refine dss_cons ?_ ?_
    · refine ds_set (i := 2) sc_Panel_turn_by_time.nd (by exact rfl) (by exact (Or.inl rfl)) ?_
      exact (de_fld C.k_Stand (by decide) (de_v 1 (pv 1)))
    refine dss_one ?_
    refine ds_if ?_ ?_ ?_
    · exact (dt_cmp (o_eq (u64 hr)) (de_fld C.k_Stand (by decide) (de_v 1 (pv 1))) de_str (nomark _))
    · refine dss_one ?_
      refine ds_expr ?_
      exact (de_meth d_Panel_ring C.k_Panel hr (by decide) (by exact takes_of rfl rfl rfl rfl) (de_v 0 (pv 0)) (da_cons (de_v 1 (pv 1)) (da_cons (de_fld C.k_Stand (by decide) (de_v 1 (pv 1))) (da_cons (de_v 2 (pv 2)) da_nil))))
    · refine dss_one ?_
      refine ds_if ?_ ?_ ?_
      · exact (dt_cmp (o_eq (u64 hr)) (de_fld C.k_Stand (by decide) (de_v 1 (pv 1))) de_str (nomark _))
      · refine dss_cons ?_ ?_
        · refine ds_expr ?_
          exact (de_meth d_Panel_hush C.k_Panel hr (by decide) (by exact takes_of rfl rfl rfl rfl) (de_v 0 (pv 0)) (da_cons (de_v 1 (pv 1)) (da_cons (de_v 2 (pv 2)) da_nil)))
        refine dss_cons ?_ ?_
        · exact ds_fld C.k_Stand (by decide) (de_v 1 (pv 1)) (de_ifExp (dt_cmp o_is (de_fld C.k_Stand (by decide) (de_v 1 (pv 1))) de_non (nomark _)) de_str de_str)
        refine dss_one ?_
        exact ds_fld C.k_Stand (by decide) (de_v 1 (pv 1)) de_non
      · refine dss_cons ?_ ?_
        · exact ds_fld C.k_Stand (by decide) (de_v 1 (pv 1)) de_str
        refine dss_cons ?_ ?_
        · exact ds_fld C.k_Stand (by decide) (de_v 1 (pv 1)) de_non
        refine dss_one ?_
        refine ds_for (b := false) (by exact passes_of rfl) (by exact rfl) ?_ ?_ ?_
        · exact (di_seq (de_meth d_Panel_eyes_by C.k_Panel hr (by decide) (by exact takes_of rfl rfl rfl rfl) (de_v 0 (pv 0)) (da_cons (de_v 1 (pv 1)) da_nil)))
        · exact (dg_name (i := 3) sc_Panel_turn_by_time.nd (by exact rfl) (by exact (Or.inl rfl)))
        · refine dss_cons ?_ ?_
          · refine ds_asg ?_ ?_
            · exact (de_ix (u1 hr) (de_ix (u1 hr) (de_fld C.k_Panel (by decide) (de_v 0 (pv 0))) de_int) (de_v 3 (pv 3)))
            · exact (dg_tup (by exact rfl) (dgs_cons (dg_name (i := 4) sc_Panel_turn_by_time.nd (by exact rfl) (by exact (Or.inl rfl))) (dgs_cons (dg_name (i := 5) sc_Panel_turn_by_time.nd (by exact rfl) (by exact (Or.inl rfl))) (dgs_cons (dg_name (i := 6) sc_Panel_turn_by_time.nd (by exact rfl) (by exact (Or.inl rfl))) dgs_nil))))
          refine dss_one ?_
          refine ds_if ?_ ?_ ?_
          · exact (DW.pt (dw_and (dt_cmp (o_eq (u64 hr)) (de_v 4 (pv 4)) de_str (nomark _)) (dw_and (dt_cmp (o_ne (u64 hr)) (de_v 6 (pv 6)) de_str (nomark _)) (dw_and1 (dt_cmp (o_inX (u65 hr)) (de_v 5 (pv 5)) (de_fld C.k_Stand (by decide) (de_v 1 (pv 1))) (by exact rfl))))))
          · refine dss_one ?_
            refine ds_expr ?_
            exact (de_meth d_Panel_trip C.k_Panel hr (by decide) (by exact takes_of rfl rfl rfl rfl) (de_v 0 (pv 0)) (da_cons (de_v 1 (pv 1)) (da_cons (de_v 3 (pv 3)) (da_cons (de_v 2 (pv 2)) da_nil))))
          · exact dss_nil
theorem ok_Panel_turn_by_time {f : Addr} {fd : FuncData} (F : Fun K "turn_by_time" "Panel.turn_by_time" st_Panel_turn_by_time f fd) (hb : Binds K fd ["self", "now"] []) (hm : Meth K (cl "Panel") "turn_by_time" f) (B : Bt mg) (C : Ct K mg cl) (d_Panel_ring : DfM P w K mg base cl 1 "Panel" "ring" ["self", "now", "eye", "moment"] m_Panel_ring) (d_Panel_hush : DfM P w K mg base cl 1 "Panel" "hush" ["self", "now", "moment"] m_Panel_hush) (d_Panel_eyes_by : DfM P w K mg base cl 2 "Panel" "eyes_by" ["self", "now"] m_Panel_eyes_by) (d_Panel_trip : DfM P w K mg base cl 3 "Panel" "trip" ["self", "now", "eye", "moment"] m_Panel_trip) : DfM P w K mg base cl 4 "Panel" "turn_by_time" ["self", "now"] m_Panel_turn_by_time :=
  ⟨f, fd, fn_Panel_turn_by_time F B C d_Panel_ring d_Panel_hush d_Panel_eyes_by d_Panel_trip, hm, hb⟩
abbrev st_Panel_behind : Stmt := inClass (topS 43) 6
abbrev nm_Panel_behind : List Str := ["self", "moment", "now"]
def ss_Panel_behind : Scope := scp [(("self" : Str), NameKind.local), (("moment" : Str), NameKind.local), (("now" : Str), NameKind.local), (("NoTime" : Str), NameKind.globalImplicit)] []
theorem sc_Panel_behind : FnScope nm_Panel_behind ["self", "moment"] ss_Panel_behind := ⟨rfl, rfl, rfl, by decide +kernel, rfl, by decide +kernel, by decide +kernel⟩
theorem fn_Panel_behind {f : Addr} {fd : FuncData} (F : Fun K "behind" "Panel.behind" st_Panel_behind f fd) (B : Bt mg) (C : Ct K mg cl) (d_Stand_copy : DfM P w K mg base cl 3 "Stand" "copy" ["self"] m_Stand_copy) (d_Panel_turn_by_time : DfM P w K mg base cl 4 "Panel" "turn_by_time" ["self", "now"] m_Panel_turn_by_time) : FnOk P w K mg base (L2.CX P w) 5 f fd ["self", "moment"] (spM K cl 2 m_Panel_behind) :=
  Fun.fn (k := 4) (g := g_Panel_behind) F (by rfl) (sc := ss_Panel_behind) (by rfl) (by rfl) sc_Panel_behind fun cdv A outer s H E e hr => by
    refine dss_cons ?_ ?_
    · refine ds_if ?_ ?_ ?_
      · exact (dt_cmp (o_lt (u64 hr)) (de_v 1 (pv 1)) (de_fld C.k_Stand (by decide) (de_fld C.k_Panel (by decide) (de_v 0 (pv 0)))) (nomark _))
      · refine dss_one ?_
        exact ds_raise C.x_NoTime (by exact rfl) (by exact takes_of rfl rfl rfl rfl) (by exact rfl)
      · exact dss_nil
    refine dss_cons ?_ ?_
    · refine ds_set (i := 2) sc_Panel_behind.nd (by exact rfl) (by exact (Or.inl rfl)) ?_
      exact (de_meth0 d_Stand_copy C.k_Stand hr (by decide) (by exact takes_of rfl rfl rfl rfl) (de_fld C.k_Panel (by decide) (de_v 0 (pv 0))))
    refine dss_cons ?_ ?_
    · refine ds_while (by exact passes_of rfl) ?_ ?_
      · exact (DW.pt (dw_and (dt_cmp o_isnot (de_fld C.k_Stand (by decide) (de_v 2 (pv 2))) de_non (nomark _)) (dw_and1 (dt_cmp o_le (de_fld C.k_Stand (by decide) (de_v 2 (pv 2))) (de_v 1 (pv 1)) (nomark _)))))
      · refine dss_one ?_
        refine ds_expr ?_
        exact (de_meth d_Panel_turn_by_time C.k_Panel hr (by decide) (by exact takes_of rfl rfl rfl rfl) (de_v 0 (pv 0)) (da_cons (de_v 2 (pv 2)) da_nil))
    refine dss_cons ?_ ?_
    · exact ds_fld C.k_Stand (by decide) (de_v 2 (pv 2)) (de_v 1 (pv 1))
    refine dss_one ?_
    refine ds_ret ?_
    exact (de_v 2 (pv 2))
theorem ok_Panel_behind {f : Addr} {fd : FuncData} (F : Fun K "behind" "Panel.behind" st_Panel_behind f fd) (hb : Binds K fd ["self", "moment"] []) (hm : Meth K (cl "Panel") "behind" f) (B : Bt mg) (C : Ct K mg cl) (d_Stand_copy : DfM P w K mg base cl 3 "Stand" "copy" ["self"] m_Stand_copy) (d_Panel_turn_by_time : DfM P w K mg base cl 4 "Panel" "turn_by_time" ["self", "now"] m_Panel_turn_by_time) : DfM P w K mg base cl 5 "Panel" "behind" ["self", "moment"] m_Panel_behind :=
  ⟨f, fd, fn_Panel_behind F B C d_Stand_copy d_Panel_turn_by_time, hm, hb⟩
abbrev st_need_mode : Stmt := topS 38
abbrev nm_need_mode : List Str := ["house", "mode"]
def ss_need_mode : Scope := scp [(("house" : Str), NameKind.local), (("mode" : Str), NameKind.local), (("is_number" : Str), NameKind.globalImplicit), (("len" : Str), NameKind.globalImplicit), (("NoMode" : Str), NameKind.globalImplicit)] []
theorem sc_need_mode : FnScope nm_need_mode ["house", "mode"] ss_need_mode := ⟨rfl, rfl, rfl, by decide +kernel, rfl, by decide +kernel, by decide +kernel⟩
theorem fn_need_mode {f : Addr} {fd : FuncData} (F : Fun K "need_mode" "need_mode" st_need_mode f fd) (B : Bt mg) (C : Ct K mg cl) (d_is_number : Df P w K mg base cl 1 "is_number" ["thing", "low", "high"] m_is_number) : FnOk P w K mg base (L2.CX P w) 2 f fd ["house", "mode"] (spM K cl 2 m_need_mode) :=
  Fun.fn (k := 1) (g := g_need_mode) F (by rfl) (sc := ss_need_mode) (by rfl) (by rfl) sc_need_mode fun cdv A outer s H E e hr => by
    refine dss_one ?_
    refine ds_if ?_ ?_ ?_
    · exact (dt_not (dt_val (de_call d_is_number hr (by decide) (by exact rfl) (by exact takes_of rfl rfl rfl rfl) (da_cons (de_v 1 (pv 1)) (da_cons de_int (da_cons (de_bin o_sub (de_callB c_len (by exact rfl) B.len bb_len (da_cons (de_ix (u1 hr) (de_v 0 (pv 0)) de_int) da_nil)) de_int) da_nil))))))
    · refine dss_one ?_
      exact ds_raise C.x_NoMode (by exact rfl) (by exact takes_of rfl rfl rfl rfl) (by exact rfl)
    · exact dss_nil
theorem ok_need_mode {f : Addr} {fd : FuncData} (F : Fun K "need_mode" "need_mode" st_need_mode f fd) (hb : Binds K fd ["house", "mode"] []) (hm : mg "need_mode" = some (.ref f)) (B : Bt mg) (C : Ct K mg cl) (d_is_number : Df P w K mg base cl 1 "is_number" ["thing", "low", "high"] m_is_number) : Df P w K mg base cl 2 "need_mode" ["house", "mode"] m_need_mode :=
  ⟨f, fd, fn_need_mode F B C d_is_number, hm, F.kp, hb⟩
abbrev st_Panel_turn_to : Stmt := inClass (topS 43) 7
abbrev nm_Panel_turn_to : List Str := ["self", "now", "word", "what"]
def ss_Panel_turn_to : Scope := scp [(("self" : Str), NameKind.local), (("now" : Str), NameKind.local), (("word" : Str), NameKind.local), (("what" : Str), NameKind.local)] []
theorem sc_Panel_turn_to : FnScope nm_Panel_turn_to ["self", "now", "word", "what"] ss_Panel_turn_to := ⟨rfl, rfl, rfl, by decide +kernel, rfl, by decide +kernel, by decide +kernel⟩
theorem fn_Panel_turn_to {f : Addr} {fd : FuncData} (F : Fun K "turn_to" "Panel.turn_to" st_Panel_turn_to f fd) (B : Bt mg) (C : Ct K mg cl) : FnOk P w K mg base (L2.CX P w) 1 f fd ["self", "now", "word", "what"] (spM K cl 4 m_Panel_turn_to) :=
  Fun.fn (k := 0) (g := g_Panel_turn_to) F (by rfl) (sc := ss_Panel_turn_to) (by rfl) (by rfl) sc_Panel_turn_to fun cdv A outer s H E e hr => by
    refine dss_cons ?_ ?_
    · exact ds_fld C.k_Stand (by decide) (de_v 1 (pv 1)) (de_bin o_add (de_fld C.k_Stand (by decide) (de_v 1 (pv 1))) (de_tup (da_cons (de_tup (da_cons (de_fld C.k_Stand (by decide) (de_v 1 (pv 1))) (da_cons (de_v 2 (pv 2)) (da_cons (de_v 3 (pv 3)) da_nil)))) da_nil)))
    refine dss_cons ?_ ?_
    · exact ds_fld C.k_Panel (by decide) (de_v 0 (pv 0)) (de_bin o_add (de_fld C.k_Panel (by decide) (de_v 0 (pv 0))) (de_lst (da_cons (de_tup (da_cons (de_v 2 (pv 2)) (da_cons (de_fld C.k_Panel (by decide) (de_v 0 (pv 0))) da_nil))) da_nil)))
    refine dss_cons ?_ ?_
    · exact ds_fld C.k_Panel (by decide) (de_v 0 (pv 0)) (de_lst da_nil)
    refine dss_cons ?_ ?_
    · exact ds_fld C.k_Panel (by decide) (de_v 0 (pv 0)) (de_v 1 (pv 1))
    refine dss_one ?_
    refine ds_ret ?_
    exact (de_fld C.k_Stand (by decide) (de_v 1 (pv 1)))
theorem ok_Panel_turn_to {f : Addr} {fd : FuncData} (F : Fun K "turn_to" "Panel.turn_to" st_Panel_turn_to f fd) (hb : Binds K fd ["self", "now", "word", "what"] []) (hm : Meth K (cl "Panel") "turn_to" f) (B : Bt mg) (C : Ct K mg cl) : DfM P w K mg base cl 1 "Panel" "turn_to" ["self", "now", "word", "what"] m_Panel_turn_to :=
  ⟨f, fd, fn_Panel_turn_to F B C, hm, hb⟩
abbrev st_Panel_arm : Stmt := inClass (topS 43) 8
abbrev nm_Panel_arm : List Str := ["self", "moment", "mode", "without", "now", "eye", "what", "number", "how"]
def ss_Panel_arm : Scope := scp [(("self" : Str), NameKind.local), (("moment" : Str), NameKind.local), (("mode" : Str), NameKind.local), (("without" : Str), NameKind.local), (("now" : Str), NameKind.local), (("eye" : Str), NameKind.local), (("what" : Str), NameKind.local), (("number" : Str), NameKind.local), (("how" : Str), NameKind.local), (("need_mode" : Str), NameKind.globalImplicit), (("is_mode" : Str), NameKind.globalImplicit), (("len" : Str), NameKind.globalImplicit), (("NoEye" : Str), NameKind.globalImplicit), (("NotOff" : Str), NameKind.globalImplicit), (("Ajar" : Str), NameKind.globalImplicit)] []
theorem sc_Panel_arm : FnScope nm_Panel_arm ["self", "moment", "mode", "without"] ss_Panel_arm := ⟨rfl, rfl, rfl, by decide +kernel, rfl, by decide +kernel, by decide +kernel⟩
theorem fn_Panel_arm {f : Addr} {fd : FuncData} (F : Fun K "arm" "Panel.arm" st_Panel_arm f fd) (B : Bt mg) (C : Ct K mg cl) (d_Panel_behind : DfM P w K mg base cl 5 "Panel" "behind" ["self", "moment"] m_Panel_behind) (d_need_mode : Df P w K mg base cl 2 "need_mode" ["house", "mode"] m_need_mode) (d_is_mode : Df P w K mg base cl 2 "is_mode" ["thing", "many"] m_is_mode) (d_Panel_turn_by_time : DfM P w K mg base cl 4 "Panel" "turn_by_time" ["self", "now"] m_Panel_turn_by_time) (d_Panel_turn_to : DfM P w K mg base cl 1 "Panel" "turn_to" ["self", "now", "word", "what"] m_Panel_turn_to) : FnOk P w K mg base (L2.CX P w) 6 f fd ["self", "moment", "mode", "without"] (spM K cl 4 m_Panel_arm) :=
  Fun.fn (k := 5) (g := g_Panel_arm) F (by rfl) (sc := ss_Panel_arm) (by rfl) (by rfl) sc_Panel_arm fun cdv A outer s H E e hr => by
    refine dss_cons ?_ ?_
    · refine ds_set (i := 4) sc_Panel_arm.nd (by exact rfl) (by exact (Or.inl rfl)) ?_
      exact (de_meth d_Panel_behind C.k_Panel hr (by decide) (by exact takes_of rfl rfl rfl rfl) (de_v 0 (pv 0)) (da_cons (de_v 1 (pv 1)) da_nil))
    refine dss_cons ?_ ?_
    · refine ds_expr ?_
      exact (de_call d_need_mode hr (by decide) (by exact rfl) (by exact takes_of rfl rfl rfl rfl) (da_cons (de_fld C.k_Panel (by decide) (de_v 0 (pv 0))) (da_cons (de_v 2 (pv 2)) da_nil)))
    refine dss_cons ?_ ?_
    · refine ds_if ?_ ?_ ?_
      · exact (dt_not (dt_val (de_call d_is_mode hr (by decide) (by exact rfl) (by exact takes_of rfl rfl rfl rfl) (da_cons (de_v 3 (pv 3)) (da_cons (de_callB c_len (by exact rfl) B.len bb_len (da_cons (de_ix (u1 hr) (de_fld C.k_Panel (by decide) (de_v 0 (pv 0))) de_int) da_nil)) da_nil)))))
      · refine dss_one ?_
        exact ds_raise C.x_NoEye (by exact rfl) (by exact takes_of rfl rfl rfl rfl) (by exact rfl)
      · exact dss_nil
    refine dss_cons ?_ ?_
    · refine ds_if ?_ ?_ ?_
      · exact (dt_cmp (o_ne (u64 hr)) (de_fld C.k_Stand (by decide) (de_v 4 (pv 4))) de_str (nomark _))
      · refine dss_one ?_
        exact ds_raise C.x_NotOff (by exact rfl) (by exact takes_of rfl rfl rfl rfl) (by exact rfl)
      · exact dss_nil
    refine dss_cons ?_ ?_
    · refine ds_for (b := false) (by exact passes_of rfl) (by exact rfl) ?_ ?_ ?_
      · exact (di_seq (de_ix (u1 hr) (de_ix (u1 hr) (de_fld C.k_Panel (by decide) (de_v 0 (pv 0))) de_int) (de_v 2 (pv 2))))
      · exact (dg_name (i := 5) sc_Panel_arm.nd (by exact rfl) (by exact (Or.inl rfl)))
      · refine dss_cons ?_ ?_
        · refine ds_asg ?_ ?_
          · exact (de_ix (u1 hr) (de_ix (u1 hr) (de_fld C.k_Panel (by decide) (de_v 0 (pv 0))) de_int) (de_v 5 (pv 5)))
          · exact (dg_tup (by exact rfl) (dgs_cons (dg_name (i := 6) sc_Panel_arm.nd (by exact rfl) (by exact (Or.inl rfl))) (dgs_cons (dg_name (i := 7) sc_Panel_arm.nd (by exact rfl) (by exact (Or.inl rfl))) (dgs_cons (dg_name (i := 8) sc_Panel_arm.nd (by exact rfl) (by exact (Or.inl rfl))) dgs_nil))))
        refine dss_one ?_
        refine ds_if ?_ ?_ ?_
        · exact (DW.pt (dw_and (dt_cmp (o_notinX (u65 hr)) (de_v 5 (pv 5)) (de_v 3 (pv 3)) (by exact rfl)) (dw_and (dt_cmp (o_eq (u64 hr)) (de_v 6 (pv 6)) de_str (nomark _)) (dw_and (dt_cmp (o_eq (u64 hr)) (de_v 8 (pv 8)) de_str (nomark _)) (dw_and1 (dt_cmp (o_inX (u65 hr)) (de_v 7 (pv 7)) (de_fld C.k_Stand (by decide) (de_v 4 (pv 4))) (by exact rfl)))))))
        · refine dss_one ?_
          exact ds_raise C.x_Ajar (by exact rfl) (by exact takes_of rfl rfl rfl rfl) (by exact rfl)
        · exact dss_nil
    refine dss_cons ?_ ?_
    · exact ds_fld C.k_Stand (by decide) (de_v 4 (pv 4)) de_str
    refine dss_cons ?_ ?_
    · exact ds_fld C.k_Stand (by decide) (de_v 4 (pv 4)) (de_bin o_add (de_v 1 (pv 1)) (de_fld C.k_Panel (by decide) (de_v 0 (pv 0))))
    refine dss_cons ?_ ?_
    · exact ds_fld C.k_Stand (by decide) (de_v 4 (pv 4)) (de_v 2 (pv 2))
    refine dss_cons ?_ ?_
    · exact ds_fld C.k_Stand (by decide) (de_v 4 (pv 4)) (de_v 3 (pv 3))
    refine dss_cons ?_ ?_
    · refine ds_while (by exact passes_of rfl) ?_ ?_
      · exact (DW.pt (dw_and (dt_cmp o_isnot (de_fld C.k_Stand (by decide) (de_v 4 (pv 4))) de_non (nomark _)) (dw_and1 (dt_cmp o_le (de_fld C.k_Stand (by decide) (de_v 4 (pv 4))) (de_v 1 (pv 1)) (nomark _)))))
      · refine dss_one ?_
        refine ds_expr ?_
        exact (de_meth d_Panel_turn_by_time C.k_Panel hr (by decide) (by exact takes_of rfl rfl rfl rfl) (de_v 0 (pv 0)) (da_cons (de_v 4 (pv 4)) da_nil))
    refine dss_one ?_
    refine ds_ret ?_
    exact (de_meth d_Panel_turn_to C.k_Panel hr (by decide) (by exact takes_of rfl rfl rfl rfl) (de_v 0 (pv 0)) (da_cons (de_v 4 (pv 4)) (da_cons de_str (da_cons (de_tup (da_cons (de_v 2 (pv 2)) (da_cons (de_v 3 (pv 3)) da_nil))) da_nil))))
theorem ok_Panel_arm {f : Addr} {fd : FuncData} (F : Fun K "arm" "Panel.arm" st_Panel_arm f fd) (hb : Binds K fd ["self", "moment", "mode", "without"] []) (hm : Meth K (cl "Panel") "arm" f) (B : Bt mg) (C : Ct K mg cl) (d_Panel_behind : DfM P w K mg base cl 5 "Panel" "behind" ["self", "moment"] m_Panel_behind) (d_need_mode : Df P w K mg base cl 2 "need_mode" ["house", "mode"] m_need_mode) (d_is_mode : Df P w K mg base cl 2 "is_mode" ["thing", "many"] m_is_mode) (d_Panel_turn_by_time : DfM P w K mg base cl 4 "Panel" "turn_by_time" ["self", "now"] m_Panel_turn_by_time) (d_Panel_turn_to : DfM P w K mg base cl 1 "Panel" "turn_to" ["self", "now", "word", "what"] m_Panel_turn_to) : DfM P w K mg base cl 6 "Panel" "arm" ["self", "moment", "mode", "without"] m_Panel_arm :=
  ⟨f, fd, fn_Panel_arm F B C d_Panel_behind d_need_mode d_is_mode d_Panel_turn_by_time d_Panel_turn_to, hm, hb⟩
abbrev st_Guard_set_by : Stmt := inClass (topS 45) 4
abbrev nm_Guard_set_by : List Str := ["self", "code", "moment", "mode", "without", "name", "word"]
def ss_Guard_set_by : Scope := scp [(("self" : Str), NameKind.local), (("code" : Str), NameKind.local), (("moment" : Str), NameKind.local), (("mode" : Str), NameKind.local), (("without" : Str), NameKind.local), (("name" : Str), NameKind.local), (("word" : Str), NameKind.local)] []
theorem sc_Guard_set_by : FnScope nm_Guard_set_by ["self", "code", "moment", "mode", "without"] ss_Guard_set_by := ⟨rfl, rfl, rfl, by decide +kernel, rfl, by decide +kernel, by decide +kernel⟩
theorem fn_Guard_set_by {f : Addr} {fd : FuncData} (F : Fun K "set_by" "Guard.set_by" st_Guard_set_by f fd) (B : Bt mg) (C : Ct K mg cl) (d_Guard_need_time : DfM P w K mg base cl 2 "Guard" "need_time" ["self", "moment"] m_Guard_need_time) (d_Codes_ask : DfM P w K mg base cl 2 "Codes" "ask" ["self", "code", "moment", "right"] m_Codes_ask) (d_Panel_arm : DfM P w K mg base cl 6 "Panel" "arm" ["self", "moment", "mode", "without"] m_Panel_arm) : FnOk P w K mg base (L2.CX P w) 7 f fd ["self", "code", "moment", "mode", "without"] (spM K cl 5 m_Guard_set_by) :=
  Fun.fn (k := 6) (g := g_Guard_set_by) F (by rfl) (sc := ss_Guard_set_by) (by rfl) (by rfl) sc_Guard_set_by fun cdv A outer s H E e hr => by
    refine dss_cons ?_ ?_
    · refine ds_expr ?_
      exact (de_meth d_Guard_need_time C.k_Guard hr (by decide) (by exact takes_of rfl rfl rfl rfl) (de_v 0 (pv 0)) (da_cons (de_v 2 (pv 2)) da_nil))
    refine dss_cons ?_ ?_
    · refine ds_set (i := 5) sc_Guard_set_by.nd (by exact rfl) (by exact (Or.inl rfl)) ?_
      exact (de_meth d_Codes_ask C.k_Codes hr (by decide) (by exact takes_of rfl rfl rfl rfl) (de_fld C.k_Guard (by decide) (de_v 0 (pv 0))) (da_cons (de_v 1 (pv 1)) (da_cons (de_v 2 (pv 2)) (da_cons de_str da_nil))))
    refine dss_cons ?_ ?_
    · refine ds_set (i := 6) sc_Guard_set_by.nd (by exact rfl) (by exact (Or.inl rfl)) ?_
      exact (de_meth d_Panel_arm C.k_Panel hr (by decide) (by exact takes_of rfl rfl rfl rfl) (de_fld C.k_Guard (by decide) (de_v 0 (pv 0))) (da_cons (de_v 2 (pv 2)) (da_cons (de_v 3 (pv 3)) (da_cons (de_v 4 (pv 4)) da_nil))))
    refine dss_cons ?_ ?_
    · exact ds_fld C.k_Guard (by decide) (de_v 0 (pv 0)) (de_bin o_add (de_fld C.k_Guard (by decide) (de_v 0 (pv 0))) (de_lst (da_cons (de_tup (da_cons (de_v 2 (pv 2)) (da_cons (de_v 5 (pv 5)) (da_cons de_str da_nil)))) da_nil)))
    refine dss_one ?_
    refine ds_ret ?_
    exact (de_tup (da_cons (de_v 5 (pv 5)) (da_cons (de_v 6 (pv 6)) da_nil)))
theorem ok_Guard_set_by {f : Addr} {fd : FuncData} (F : Fun K "set_by" "Guard.set_by" st_Guard_set_by f fd) (hb : Binds K fd ["self", "code", "moment", "mode", "without"] []) (hm : Meth K (cl "Guard") "set_by" f) (B : Bt mg) (C : Ct K mg cl) (d_Guard_need_time : DfM P w K mg base cl 2 "Guard" "need_time" ["self", "moment"] m_Guard_need_time) (d_Codes_ask : DfM P w K mg base cl 2 "Codes" "ask" ["self", "code", "moment", "right"] m_Codes_ask) (d_Panel_arm : DfM P w K mg base cl 6 "Panel" "arm" ["self", "moment", "mode", "without"] m_Panel_arm) : DfM P w K mg base cl 7 "Guard" "set_by" ["self", "code", "moment", "mode", "without"] m_Guard_set_by :=
  ⟨f, fd, fn_Guard_set_by F B C d_Guard_need_time d_Codes_ask d_Panel_arm, hm, hb⟩
abbrev st_Panel_lift : Stmt := inClass (topS 43) 9
abbrev nm_Panel_lift : List Str := ["self", "moment", "now", "word"]
def ss_Panel_lift : Scope := scp [(("self" : Str), NameKind.local), (("moment" : Str), NameKind.local), (("now" : Str), NameKind.local), (("word" : Str), NameKind.local), (("NotSet" : Str), NameKind.globalImplicit)] []
theorem sc_Panel_lift : FnScope nm_Panel_lift ["self", "moment"] ss_Panel_lift := ⟨rfl, rfl, rfl, by decide +kernel, rfl, by decide +kernel, by decide +kernel⟩
theorem fn_Panel_lift {f : Addr} {fd : FuncData} (F : Fun K "lift" "Panel.lift" st_Panel_lift f fd) (B : Bt mg) (C : Ct K mg cl) (d_Panel_behind : DfM P w K mg base cl 5 "Panel" "behind" ["self", "moment"] m_Panel_behind) (d_Panel_hush : DfM P w K mg base cl 1 "Panel" "hush" ["self", "now", "moment"] m_Panel_hush) (d_Panel_turn_to : DfM P w K mg base cl 1 "Panel" "turn_to" ["self", "now", "word", "what"] m_Panel_turn_to) : FnOk P w K mg base (L2.CX P w) 6 f fd ["self", "moment"] (spM K cl 2 m_Panel_lift) :=
  Fun.fn (k := 5) (g := g_Panel_lift) F (by rfl) (sc := ss_Panel_lift) (by rfl) (by rfl) sc_Panel_lift fun cdv A outer s H E e hr => by
    refine dss_cons ?_ ?_
    · refine ds_set (i := 2) sc_Panel_lift.nd (by exact rfl) (by exact (Or.inl rfl)) ?_
      exact (de_meth d_Panel_behind C.k_Panel hr (by decide) (by exact takes_of rfl rfl rfl rfl) (de_v 0 (pv 0)) (da_cons (de_v 1 (pv 1)) da_nil))
    refine dss_cons ?_ ?_
    · refine ds_set (i := 3) sc_Panel_lift.nd (by exact rfl) (by exact (Or.inl rfl)) ?_
      exact (de_fld C.k_Stand (by decide) (de_v 2 (pv 2)))
    refine dss_cons ?_ ?_
    · refine ds_if ?_ ?_ ?_
      · exact (dt_cmp (o_eq (u64 hr)) (de_v 3 (pv 3)) de_str (nomark _))
      · refine dss_one ?_
        exact ds_raise C.x_NotSet (by exact rfl) (by exact takes_of rfl rfl rfl rfl) (by exact rfl)
      · exact dss_nil
    refine dss_cons ?_ ?_
    · refine ds_if ?_ ?_ ?_
      · exact (dt_cmp (o_eq (u64 hr)) (de_v 3 (pv 3)) de_str (nomark _))
      · refine dss_one ?_
        refine ds_expr ?_
        exact (de_meth d_Panel_hush C.k_Panel hr (by decide) (by exact takes_of rfl rfl rfl rfl) (de_v 0 (pv 0)) (da_cons (de_v 2 (pv 2)) (da_cons (de_v 1 (pv 1)) da_nil)))
      · exact dss_nil
    refine dss_cons ?_ ?_
    · exact ds_fld C.k_Stand (by decide) (de_v 2 (pv 2)) de_str
    refine dss_cons ?_ ?_
    · exact ds_fld C.k_Stand (by decide) (de_v 2 (pv 2)) de_non
    refine dss_cons ?_ ?_
    · exact ds_fld C.k_Stand (by decide) (de_v 2 (pv 2)) de_non
    refine dss_cons ?_ ?_
    · exact ds_fld C.k_Stand (by decide) (de_v 2 (pv 2)) (de_tup da_nil)
    refine dss_cons ?_ ?_
    · refine ds_expr ?_
      exact (de_meth d_Panel_turn_to C.k_Panel hr (by decide) (by exact takes_of rfl rfl rfl rfl) (de_v 0 (pv 0)) (da_cons (de_v 2 (pv 2)) (da_cons de_str (da_cons de_non da_nil))))
    refine dss_one ?_
    refine ds_ret ?_
    exact (de_v 3 (pv 3))
theorem ok_Panel_lift {f : Addr} {fd : FuncData} (F : Fun K "lift" "Panel.lift" st_Panel_lift f fd) (hb : Binds K fd ["self", "moment"] []) (hm : Meth K (cl "Panel") "lift" f) (B : Bt mg) (C : Ct K mg cl) (d_Panel_behind : DfM P w K mg base cl 5 "Panel" "behind" ["self", "moment"] m_Panel_behind) (d_Panel_hush : DfM P w K mg base cl 1 "Panel" "hush" ["self", "now", "moment"] m_Panel_hush) (d_Panel_turn_to : DfM P w K mg base cl 1 "Panel" "turn_to" ["self", "now", "word", "what"] m_Panel_turn_to) : DfM P w K mg base cl 6 "Panel" "lift" ["self", "moment"] m_Panel_lift :=
  ⟨f, fd, fn_Panel_lift F B C d_Panel_behind d_Panel_hush d_Panel_turn_to, hm, hb⟩
abbrev st_Guard_lift_by : Stmt := inClass (topS 45) 5
abbrev nm_Guard_lift_by : List Str := ["self", "code", "moment", "name", "word"]
def ss_Guard_lift_by : Scope := scp [(("self" : Str), NameKind.local), (("code" : Str), NameKind.local), (("moment" : Str), NameKind.local), (("name" : Str), NameKind.local), (("word" : Str), NameKind.local)] []
theorem sc_Guard_lift_by : FnScope nm_Guard_lift_by ["self", "code", "moment"] ss_Guard_lift_by := ⟨rfl, rfl, rfl, by decide +kernel, rfl, by decide +kernel, by decide +kernel⟩
theorem fn_Guard_lift_by {f : Addr} {fd : FuncData} (F : Fun K "lift_by" "Guard.lift_by" st_Guard_lift_by f fd) (B : Bt mg) (C : Ct K mg cl) (d_Guard_need_time : DfM P w K mg base cl 2 "Guard" "need_time" ["self", "moment"] m_Guard_need_time) (d_Codes_ask : DfM P w K mg base cl 2 "Codes" "ask" ["self", "code", "moment", "right"] m_Codes_ask) (d_Panel_lift : DfM P w K mg base cl 6 "Panel" "lift" ["self", "moment"] m_Panel_lift) : FnOk P w K mg base (L2.CX P w) 7 f fd ["self", "code", "moment"] (spM K cl 3 m_Guard_lift_by) :=
  Fun.fn (k := 6) (g := g_Guard_lift_by) F (by rfl) (sc := ss_Guard_lift_by) (by rfl) (by rfl) sc_Guard_lift_by fun cdv A outer s H E e hr => by
    refine dss_cons ?_ ?_
    · refine ds_expr ?_
      exact (de_meth d_Guard_need_time C.k_Guard hr (by decide) (by exact takes_of rfl rfl rfl rfl) (de_v 0 (pv 0)) (da_cons (de_v 2 (pv 2)) da_nil))
    refine dss_cons ?_ ?_
    · refine ds_set (i := 3) sc_Guard_lift_by.nd (by exact rfl) (by exact (Or.inl rfl)) ?_
      exact (de_meth d_Codes_ask C.k_Codes hr (by decide) (by exact takes_of rfl rfl rfl rfl) (de_fld C.k_Guard (by decide) (de_v 0 (pv 0))) (da_cons (de_v 1 (pv 1)) (da_cons (de_v 2 (pv 2)) (da_cons de_str da_nil))))
    refine dss_cons ?_ ?_
    · refine ds_set (i := 4) sc_Guard_lift_by.nd (by exact rfl) (by exact (Or.inl rfl)) ?_
      exact (de_meth d_Panel_lift C.k_Panel hr (by decide) (by exact takes_of rfl rfl rfl rfl) (de_fld C.k_Guard (by decide) (de_v 0 (pv 0))) (da_cons (de_v 2 (pv 2)) da_nil))
    refine dss_cons ?_ ?_
    · exact ds_fld C.k_Guard (by decide) (de_v 0 (pv 0)) (de_bin o_add (de_fld C.k_Guard (by decide) (de_v 0 (pv 0))) (de_lst (da_cons (de_tup (da_cons (de_v 2 (pv 2)) (da_cons (de_v 3 (pv 3)) (da_cons de_str da_nil)))) da_nil)))
    refine dss_one ?_
    refine ds_ret ?_
    exact (de_tup (da_cons (de_v 3 (pv 3)) (da_cons (de_v 4 (pv 4)) da_nil)))
theorem ok_Guard_lift_by {f : Addr} {fd : FuncData} (F : Fun K "lift_by" "Guard.lift_by" st_Guard_lift_by f fd) (hb : Binds K fd ["self", "code", "moment"] []) (hm : Meth K (cl "Guard") "lift_by" f) (B : Bt mg) (C : Ct K mg cl) (d_Guard_need_time : DfM P w K mg base cl 2 "Guard" "need_time" ["self", "moment"] m_Guard_need_time) (d_Codes_ask : DfM P w K mg base cl 2 "Codes" "ask" ["self", "code", "moment", "right"] m_Codes_ask) (d_Panel_lift : DfM P w K mg base cl 6 "Panel" "lift" ["self", "moment"] m_Panel_lift) : DfM P w K mg base cl 7 "Guard" "lift_by" ["self", "code", "moment"] m_Guard_lift_by :=
  ⟨f, fd, fn_Guard_lift_by F B C d_Guard_need_time d_Codes_ask d_Panel_lift, hm, hb⟩
abbrev st_law_told : Stmt := topS 51
abbrev nm_law_told : List Str := ["guard", "word", "code", "moment", "e", "flags"]
def ss_law_told : Scope := scp [(("guard" : Str), NameKind.local), (("word" : Str), NameKind.local), (("code" : Str), NameKind.local), (("moment" : Str), NameKind.local), (("e" : Str), NameKind.local), (("flags" : Str), NameKind.local), (("BoltError" : Str), NameKind.globalImplicit), (("isinstance" : Str), NameKind.globalImplicit), (("Wrong" : Str), NameKind.globalImplicit), (("Locked" : Str), NameKind.globalImplicit), (("NoRight" : Str), NameKind.globalImplicit), (("NotOff" : Str), NameKind.globalImplicit), (("NotSet" : Str), NameKind.globalImplicit), (("Ajar" : Str), NameKind.globalImplicit), (("ValueError" : Str), NameKind.globalImplicit)] []
theorem sc_law_told : FnScope nm_law_told ["guard", "word", "code", "moment"] ss_law_told := ⟨rfl, rfl, rfl, by decide +kernel, rfl, by decide +kernel, by decide +kernel⟩
theorem fn_law_told {f : Addr} {fd : FuncData} (F : Fun K "_law_told" "_law_told" st_law_told f fd) (B : Bt mg) (C : Ct K mg cl) (d_Guard_set_by : DfM P w K mg base cl 7 "Guard" "set_by" ["self", "code", "moment", "mode", "without"] m_Guard_set_by) (d_Guard_lift_by : DfM P w K mg base cl 7 "Guard" "lift_by" ["self", "code", "moment"] m_Guard_lift_by) : FnOk P w K mg base (L2.CX P w) 8 f fd ["guard", "word", "code", "moment"] (spM K cl 4 m_law_told) :=
  Fun.fn (k := 7) (g := g_law_told) F (by rfl) (sc := ss_law_told) (by rfl) (by rfl) sc_law_told fun cdv A outer s H E e hr => by
    refine dss_one ?_
    refine ds_tryB (i := 4) (cs := XS) (gs := fun a c => b_law_told_2 a c) (GS := fun c ρ S => b_law_told_2 0 c (ρ.set 4 (some (.adr 0))) S) ?_ ?_ ?_ (fun c hc => C.exm c hc) (by exact rfl) (by exact rfl) sc_law_told.nd (by exact rfl) (by exact rfl) ⟨(by exact rfl), by decide, .inl C.x_BoltError.g⟩
    · intro W pn xe tk po
      refine dss_one ?_
      refine ds_ret ?_
      exact (de_ifExp (dt_cmp (o_eq (u64 hr)) (de_v 1 (pv 1)) de_str (nomark _)) (de_meth d_Guard_set_by C.k_Guard hr (by decide) tk (de_v 0 (pv 0)) (da_cons (de_v 2 (pv 2)) (da_cons (de_v 3 (pv 3)) (da_cons de_int (da_cons (de_tup da_nil) da_nil))))) (de_meth d_Guard_lift_by C.k_Guard hr (by decide) tk (de_v 0 (pv 0)) (da_cons (de_v 2 (pv 2)) (da_cons (de_v 3 (pv 3)) da_nil))))
    · intro a oe c pn hc hz hf
      have hp : (a, oe) ∈ ((a, oe) :: pn) := List.mem_cons_self
      refine dss_cons ?_ ?_
      · refine ds_set (i := 5) sc_law_told.nd (by exact rfl) (by exact (Or.inl rfl)) ?_
        exact (de_lst (da_cons (de_isE (C.ec c hc) hp hz hf (pv 4) (pe_glob (v := .ref (cl "Wrong")) (by exact rfl) C.x_Wrong.g rfl) (fun _ h => h) (C.isa c hc "Wrong" (by decide)) (by exact rfl) B.isinstance) (da_cons (de_isE (C.ec c hc) hp hz hf (pv 4) (pe_glob (v := .ref (cl "Locked")) (by exact rfl) C.x_Locked.g rfl) (fun _ h => h) (C.isa c hc "Locked" (by decide)) (by exact rfl) B.isinstance) (da_cons (de_isE (C.ec c hc) hp hz hf (pv 4) (pe_glob (v := .ref (cl "NoRight")) (by exact rfl) C.x_NoRight.g rfl) (fun _ h => h) (C.isa c hc "NoRight" (by decide)) (by exact rfl) B.isinstance) (da_cons (de_isE (C.ec c hc) hp hz hf (pv 4) (pe_glob (v := .ref (cl "NotOff")) (by exact rfl) C.x_NotOff.g rfl) (fun _ h => h) (C.isa c hc "NotOff" (by decide)) (by exact rfl) B.isinstance) da_nil)))))
      refine dss_cons ?_ ?_
      · refine ds_set (i := 5) sc_law_told.nd (by exact rfl) (by exact (Or.inl rfl)) ?_
        exact (de_bin o_add (de_v 5 (pv 5)) (de_lst (da_cons (de_isE (C.ec c hc) hp hz hf (pv 4) (pe_glob (v := .ref (cl "NotSet")) (by exact rfl) C.x_NotSet.g rfl) (fun _ h => h) (C.isa c hc "NotSet" (by decide)) (by exact rfl) B.isinstance) (da_cons (de_isE (C.ec c hc) hp hz hf (pv 4) (pe_glob (v := .ref (cl "Ajar")) (by exact rfl) C.x_Ajar.g rfl) (fun _ h => h) (C.isa c hc "Ajar" (by decide)) (by exact rfl) B.isinstance) da_nil))))
      refine dss_one ?_
      refine ds_ret ?_
      exact (de_ifExp (DW.pt (dw_and (dt_cmp (o_eq (h64 (hot_of hr _))) (de_count (de_v 5 (pv 5)) (da_cons de_bl da_nil)) de_int (nomark _)) (dw_and1 (dt_val (de_isE (C.ec c hc) hp hz hf (pv 4) (pe_bltn (v := .ty "ValueError") (by exact rfl) C.noVE (by decide +kernel) rfl) (fun _ h => h) (C.isv c hc) (by exact rfl) B.isinstance))))) (de_index (de_v 5 (pv 5)) (da_cons de_bl da_nil)) (de_neg de_int))
    · intro a c ρ S hi hc d S1 hq
      exact b_law_told_2_par hi hq
theorem ok_law_told {f : Addr} {fd : FuncData} (F : Fun K "_law_told" "_law_told" st_law_told f fd) (hb : Binds K fd ["guard", "word", "code", "moment"] []) (hm : mg "_law_told" = some (.ref f)) (B : Bt mg) (C : Ct K mg cl) (d_Guard_set_by : DfM P w K mg base cl 7 "Guard" "set_by" ["self", "code", "moment", "mode", "without"] m_Guard_set_by) (d_Guard_lift_by : DfM P w K mg base cl 7 "Guard" "lift_by" ["self", "code", "moment"] m_Guard_lift_by) : Df P w K mg base cl 8 "_law_told" ["guard", "word", "code", "moment"] m_law_told :=
  ⟨f, fd, fn_law_told F B C d_Guard_set_by d_Guard_lift_by, hm, F.kp, hb⟩
abbrev st_Codes_names : Stmt := inClass (topS 23) 4
abbrev nm_Codes_names : List Str := ["self"]
def ss_Codes_names : Scope := scp [(("self" : Str), NameKind.local), (("sorted" : Str), NameKind.globalImplicit)] []
theorem sc_Codes_names : FnScope nm_Codes_names ["self"] ss_Codes_names := ⟨rfl, rfl, rfl, by decide +kernel, rfl, by decide +kernel, by decide +kernel⟩
theorem fn_Codes_names {f : Addr} {fd : FuncData} (F : Fun K "names" "Codes.names" st_Codes_names f fd) (B : Bt mg) (C : Ct K mg cl) : FnOk P w K mg base (L2.CX P w) 1 f fd ["self"] (spM K cl 1 m_Codes_names) :=
  Fun.fn (k := 0) (g := g_Codes_names) F (by rfl) (sc := ss_Codes_names) (by rfl) (by rfl) sc_Codes_names fun cdv A outer s H E e hr => by
    refine dss_one ?_
    refine ds_ret ?_
    exact (de_callB (c_sortedY (by exact rfl)) (by exact rfl) B.sorted bb_sorted (da_cons (de_fld C.k_Codes (by decide) (de_v 0 (pv 0))) da_nil))
theorem ok_Codes_names {f : Addr} {fd : FuncData} (F : Fun K "names" "Codes.names" st_Codes_names f fd) (hb : Binds K fd ["self"] []) (hm : Meth K (cl "Codes") "names" f) (B : Bt mg) (C : Ct K mg cl) : DfM P w K mg base cl 1 "Codes" "names" ["self"] m_Codes_names :=
  ⟨f, fd, fn_Codes_names F B C, hm, hb⟩
abbrev st_Guard_names : Stmt := inClass (topS 45) 11
abbrev nm_Guard_names : List Str := ["self"]
def ss_Guard_names : Scope := scp [(("self" : Str), NameKind.local)] []
theorem sc_Guard_names : FnScope nm_Guard_names ["self"] ss_Guard_names := ⟨rfl, rfl, rfl, by decide +kernel, rfl, by decide +kernel, by decide +kernel⟩
theorem fn_Guard_names {f : Addr} {fd : FuncData} (F : Fun K "names" "Guard.names" st_Guard_names f fd) (B : Bt mg) (C : Ct K mg cl) (d_Codes_names : DfM P w K mg base cl 1 "Codes" "names" ["self"] m_Codes_names) : FnOk P w K mg base (L2.CX P w) 2 f fd ["self"] (spM K cl 1 m_Guard_names) :=
  Fun.fn (k := 1) (g := g_Guard_names) F (by rfl) (sc := ss_Guard_names) (by rfl) (by rfl) sc_Guard_names fun cdv A outer s H E e hr => by
    refine dss_one ?_
    refine ds_ret ?_
    exact (de_meth0 d_Codes_names C.k_Codes hr (by decide) (by exact takes_of rfl rfl rfl rfl) (de_fld C.k_Guard (by decide) (de_v 0 (pv 0))))
theorem ok_Guard_names {f : Addr} {fd : FuncData} (F : Fun K "names" "Guard.names" st_Guard_names f fd) (hb : Binds K fd ["self"] []) (hm : Meth K (cl "Guard") "names" f) (B : Bt mg) (C : Ct K mg cl) (d_Codes_names : DfM P w K mg base cl 1 "Codes" "names" ["self"] m_Codes_names) : DfM P w K mg base cl 2 "Guard" "names" ["self"] m_Guard_names :=
  ⟨f, fd, fn_Guard_names F B C d_Codes_names, hm, hb⟩
abbrev st_Codes_take : Stmt := inClass (topS 23) 2
abbrev nm_Codes_take : List Str := ["self", "name", "found", "one"]
def ss_Codes_take : Scope := scp [(("self" : Str), NameKind.cell), (("name" : Str), NameKind.cell), (("found" : Str), NameKind.local), (("NoName" : Str), NameKind.globalImplicit), (("dict" : Str), NameKind.globalImplicit)] [(("fast" : Str), Const.str "self"), (("fast" : Str), Const.str "name"), (("fast" : Str), Const.str "found"), (("fast" : Str), Const.str "one")]
theorem sc_Codes_take : FnScope nm_Codes_take ["self", "name"] ss_Codes_take := ⟨rfl, rfl, rfl, by decide +kernel, rfl, by decide +kernel, by decide +kernel⟩
theorem fn_Codes_take {f : Addr} {fd : FuncData} (F : Fun K "take" "Codes.take" st_Codes_take f fd) (B : Bt mg) (C : Ct K mg cl) : FnOk P w K mg base (L2.CX P w) 1 f fd ["self", "name"] (spM K cl 2 m_Codes_take) :=
  Fun.fn (k := 0) (g := g_Codes_take) F (by rfl) (sc := ss_Codes_take) (by rfl) (by rfl) sc_Codes_take fun cdv A outer s H E e hr => by
    refine dss_cons ?_ ?_
    · refine ds_if ?_ ?_ ?_
      · exact (dt_cmp (o_notinX (u65 hr)) (de_v 1 (pv 1)) (de_fld C.k_Codes (by decide) (de_v 0 (pv 0))) (by exact rfl))
      · refine dss_one ?_
        exact ds_raise C.x_NoName (by exact rfl) (by exact takes_of rfl rfl rfl rfl) (by exact rfl)
      · exact dss_nil
    refine dss_cons ?_ ?_
    · refine ds_set (i := 2) sc_Codes_take.nd (by exact rfl) (by exact (Or.inl rfl)) ?_
      exact (de_ix (u1 hr) (de_fld C.k_Codes (by decide) (de_v 0 (pv 0))) (de_v 1 (pv 1)))
    refine dss_cons ?_ ?_
    · exact ds_fld C.k_Codes (by decide) (de_v 0 (pv 0)) (de_dictP (by exact rfl) (da_cons (DL.de (dl_comp (by exact rfl) sc_Codes_take.nd (di_seq (de_fld C.k_Codes (by decide) (de_v 0 (pv 0)))) (by exact blkOk_by (N := nm_Codes_take) (sc := ss_Codes_take) (own := [("one", 3)]) (by decide +kernel)) (fun _ _ _ _ _ => (eg_name (i := 3) (by decide) sc_Codes_take.nd (by exact rfl) (by first | exact Or.inl rfl | exact Or.inr rfl))) (fun _ _ _ _ _ => (dts_one (dt_cmp (o_ne (u64 hr)) (de_v 3 (pv 3)) (de_v 1 (pv 1)) (nomark _)))) (fun _ _ _ _ _ => (de_tup (da_cons (de_v 3 (pv 3)) (da_cons (de_ix (u1 hr) (de_fld C.k_Codes (by decide) (de_v 0 (pv 0))) (de_v 3 (pv 3))) da_nil)))))) da_nil) (by exact rfl) B.dict)
    refine dss_one ?_
    refine ds_ret ?_
    exact (de_v 2 (pv 2))
theorem ok_Codes_take {f : Addr} {fd : FuncData} (F : Fun K "take" "Codes.take" st_Codes_take f fd) (hb : Binds K fd ["self", "name"] []) (hm : Meth K (cl "Codes") "take" f) (B : Bt mg) (C : Ct K mg cl) : DfM P w K mg base cl 1 "Codes" "take" ["self", "name"] m_Codes_take :=
  ⟨f, fd, fn_Codes_take F B C, hm, hb⟩
abbrev st_Guard_take : Stmt := inClass (topS 45) 2
abbrev nm_Guard_take : List Str := ["self", "name"]
def ss_Guard_take : Scope := scp [(("self" : Str), NameKind.local), (("name" : Str), NameKind.local)] []
theorem sc_Guard_take : FnScope nm_Guard_take ["self", "name"] ss_Guard_take := ⟨rfl, rfl, rfl, by decide +kernel, rfl, by decide +kernel, by decide +kernel⟩
theorem fn_Guard_take {f : Addr} {fd : FuncData} (F : Fun K "take" "Guard.take" st_Guard_take f fd) (B : Bt mg) (C : Ct K mg cl) (d_Codes_take : DfM P w K mg base cl 1 "Codes" "take" ["self", "name"] m_Codes_take) : FnOk P w K mg base (L2.CX P w) 2 f fd ["self", "name"] (spM K cl 2 m_Guard_take) :=
  Fun.fn (k := 1) (g := g_Guard_take) F (by rfl) (sc := ss_Guard_take) (by rfl) (by rfl) sc_Guard_take fun cdv A outer s H E e hr => by
    refine dss_one ?_
    refine ds_ret ?_
    exact (de_meth d_Codes_take C.k_Codes hr (by decide) (by exact takes_of rfl rfl rfl rfl) (de_fld C.k_Guard (by decide) (de_v 0 (pv 0))) (da_cons (de_v 1 (pv 1)) da_nil))
theorem ok_Guard_take {f : Addr} {fd : FuncData} (F : Fun K "take" "Guard.take" st_Guard_take f fd) (hb : Binds K fd ["self", "name"] []) (hm : Meth K (cl "Guard") "take" f) (B : Bt mg) (C : Ct K mg cl) (d_Codes_take : DfM P w K mg base cl 1 "Codes" "take" ["self", "name"] m_Codes_take) : DfM P w K mg base cl 2 "Guard" "take" ["self", "name"] m_Guard_take :=
  ⟨f, fd, fn_Guard_take F B C d_Codes_take, hm, hb⟩
abbrev st_Panel_wait : Stmt := inClass (topS 43) 15
abbrev nm_Panel_wait : List Str := ["self", "moment"]
def ss_Panel_wait : Scope := scp [(("self" : Str), NameKind.local), (("moment" : Str), NameKind.local)] []
theorem sc_Panel_wait : FnScope nm_Panel_wait ["self", "moment"] ss_Panel_wait := ⟨rfl, rfl, rfl, by decide +kernel, rfl, by decide +kernel, by decide +kernel⟩
theorem fn_Panel_wait {f : Addr} {fd : FuncData} (F : Fun K "wait" "Panel.wait" st_Panel_wait f fd) (B : Bt mg) (C : Ct K mg cl) (d_Panel_turn_to : DfM P w K mg base cl 1 "Panel" "turn_to" ["self", "now", "word", "what"] m_Panel_turn_to) (d_Panel_behind : DfM P w K mg base cl 5 "Panel" "behind" ["self", "moment"] m_Panel_behind) : FnOk P w K mg base (L2.CX P w) 6 f fd ["self", "moment"] (spM K cl 2 m_Panel_wait) :=
  Fun.fn (k := 5) (g := g_Panel_wait) F (by rfl) (sc := ss_Panel_wait) (by rfl) (by rfl) sc_Panel_wait fun cdv A outer s H E e hr => by
    refine dss_one ?_
    refine ds_ret ?_
    exact (de_meth d_Panel_turn_to C.k_Panel hr (by decide) (by exact takes_of rfl rfl rfl rfl) (de_v 0 (pv 0)) (da_cons (de_meth d_Panel_behind C.k_Panel hr (by decide) (by exact takes_of rfl rfl rfl rfl) (de_v 0 (pv 0)) (da_cons (de_v 1 (pv 1)) da_nil)) (da_cons de_str (da_cons de_non da_nil))))
theorem ok_Panel_wait {f : Addr} {fd : FuncData} (F : Fun K "wait" "Panel.wait" st_Panel_wait f fd) (hb : Binds K fd ["self", "moment"] []) (hm : Meth K (cl "Panel") "wait" f) (B : Bt mg) (C : Ct K mg cl) (d_Panel_turn_to : DfM P w K mg base cl 1 "Panel" "turn_to" ["self", "now", "word", "what"] m_Panel_turn_to) (d_Panel_behind : DfM P w K mg base cl 5 "Panel" "behind" ["self", "moment"] m_Panel_behind) : DfM P w K mg base cl 6 "Panel" "wait" ["self", "moment"] m_Panel_wait :=
  ⟨f, fd, fn_Panel_wait F B C d_Panel_turn_to d_Panel_behind, hm, hb⟩
abbrev st_Guard_done_by : Stmt := inClass (topS 45) 12
abbrev nm_Guard_done_by : List Str := ["self", "name", "moment", "who", "word"]
def ss_Guard_done_by : Scope := scp [(("self" : Str), NameKind.local), (("name" : Str), NameKind.cell)] [(("fast" : Str), Const.str "self"), (("fast" : Str), Const.str "name"), (("fast" : Str), Const.str "moment"), (("fast" : Str), Const.str "who"), (("fast" : Str), Const.str "word")]
theorem sc_Guard_done_by : FnScope nm_Guard_done_by ["self", "name"] ss_Guard_done_by := ⟨rfl, rfl, rfl, by decide +kernel, rfl, by decide +kernel, by decide +kernel⟩
theorem fn_Guard_done_by {f : Addr} {fd : FuncData} (F : Fun K "done_by" "Guard.done_by" st_Guard_done_by f fd) (B : Bt mg) (C : Ct K mg cl) : FnOk P w K mg base (L2.CX P w) 1 f fd ["self", "name"] (spM K cl 2 m_Guard_done_by) :=
  Fun.fn (k := 0) (g := g_Guard_done_by) F (by rfl) (sc := ss_Guard_done_by) (by rfl) (by rfl) sc_Guard_done_by fun cdv A outer s H E e hr => by
    refine dss_one ?_
    refine ds_ret ?_
    exact (DL.de (dl_comp (by exact rfl) sc_Guard_done_by.nd (di_seq (de_fld C.k_Guard (by decide) (de_v 0 (pv 0)))) (by exact blkOk_by (N := nm_Guard_done_by) (sc := ss_Guard_done_by) (own := [("moment", 2), ("who", 3), ("word", 4)]) (by decide +kernel)) (fun _ _ _ _ _ => (eg_tup (by exact rfl) (egs_cons (eg_name (i := 2) (by decide) sc_Guard_done_by.nd (by exact rfl) (by first | exact Or.inl rfl | exact Or.inr rfl)) (egs_cons (eg_name (i := 3) (by decide) sc_Guard_done_by.nd (by exact rfl) (by first | exact Or.inl rfl | exact Or.inr rfl)) (egs_cons (eg_name (i := 4) (by decide) sc_Guard_done_by.nd (by exact rfl) (by first | exact Or.inl rfl | exact Or.inr rfl)) egs_nil))))) (fun _ _ _ _ _ => (dts_one (dt_cmp (o_eq (u64 hr)) (de_v 3 (pv 3)) (de_v 1 (pv 1)) (nomark _)))) (fun _ _ _ _ _ => (de_tup (da_cons (de_v 2 (pv 2)) (da_cons (de_v 4 (pv 4)) da_nil))))))
theorem ok_Guard_done_by {f : Addr} {fd : FuncData} (F : Fun K "done_by" "Guard.done_by" st_Guard_done_by f fd) (hb : Binds K fd ["self", "name"] []) (hm : Meth K (cl "Guard") "done_by" f) (B : Bt mg) (C : Ct K mg cl) : DfM P w K mg base cl 1 "Guard" "done_by" ["self", "name"] m_Guard_done_by :=
  ⟨f, fd, fn_Guard_done_by F B C, hm, hb⟩
abbrev st_law : Stmt := topS 52
abbrev nm_law : List Str := ["script", "house", "leaving", "held", "k", "left", "done", "guard", "other", "rights", "moment", "is_set", "name", "word", "before", "told", "right", "due"]
def ss_law : Scope := scp [(("script" : Str), NameKind.local), (("house" : Str), NameKind.cell), (("leaving" : Str), NameKind.cell), (("k" : Str), NameKind.local), (("guard" : Str), NameKind.cell), (("other" : Str), NameKind.local), (("held" : Str), NameKind.local), (("rights" : Str), NameKind.local), (("left" : Str), NameKind.local), (("moment" : Str), NameKind.local), (("is_set" : Str), NameKind.local), (("name" : Str), NameKind.local), (("word" : Str), NameKind.local), (("before" : Str), NameKind.local), (("told" : Str), NameKind.local), (("right" : Str), NameKind.local), (("due" : Str), NameKind.local), (("done" : Str), NameKind.local), (("_law_house" : Str), NameKind.globalImplicit), (("_law_drawn" : Str), NameKind.globalImplicit), (("range" : Str), NameKind.globalImplicit), (("str" : Str), NameKind.globalImplicit), (("max" : Str), NameKind.globalImplicit), (("min" : Str), NameKind.globalImplicit), (("len" : Str), NameKind.globalImplicit), (("_law_told" : Str), NameKind.globalImplicit), (("isinstance" : Str), NameKind.globalImplicit), (("tuple" : Str), NameKind.globalImplicit), (("int" : Str), NameKind.globalImplicit), (("sum" : Str), NameKind.globalImplicit)] [(("fast" : Str), Const.str "script"), (("fast" : Str), Const.str "house"), (("fast" : Str), Const.str "leaving"), (("fast" : Str), Const.str "k"), (("fast" : Str), Const.str "guard"), (("fast" : Str), Const.str "other"), (("fast" : Str), Const.str "held"), (("fast" : Str), Const.str "rights"), (("fast" : Str), Const.str "left"), (("fast" : Str), Const.str "moment"), (("fast" : Str), Const.str "is_set"), (("fast" : Str), Const.str "name"), (("fast" : Str), Const.str "word"), (("fast" : Str), Const.str "before"), (("fast" : Str), Const.str "told"), (("fast" : Str), Const.str "right"), (("fast" : Str), Const.str "due"), (("fast" : Str), Const.str "done")]
theorem sc_law : FnScope nm_law ["script"] ss_law := ⟨rfl, rfl, rfl, by decide +kernel, rfl, by decide +kernel, by decide +kernel⟩
theorem fn_law {f : Addr} {fd : FuncData} (F : Fun K "law" "law" st_law f fd) (B : Bt mg) (C : Ct K mg cl) (d_law_house : Df P w K mg base cl 4 "_law_house" ["script", "at"] m_law_house) (d_law_drawn : Df P w K mg base cl 2 "_law_drawn" ["script", "k", "many"] m_law_drawn) (d_Guard_init : DfC P w K mg base cl 8 "Guard" ["self", "house", "leaving", "entering", "ringing", "tries", "rest"] m_Guard_init) (d_Guard_give : DfM P w K mg base cl 3 "Guard" "give" ["self", "name", "code", "rights"] m_Guard_give) (d_Panel_log : DfM P w K mg base cl 1 "Panel" "log" ["self"] m_Panel_log) (d_Guard_shown : DfM P w K mg base cl 9 "Guard" "shown" ["self"] m_Guard_shown) (d_law_told : Df P w K mg base cl 8 "_law_told" ["guard", "word", "code", "moment"] m_law_told) (d_Guard_names : DfM P w K mg base cl 2 "Guard" "names" ["self"] m_Guard_names) (d_Guard_take : DfM P w K mg base cl 2 "Guard" "take" ["self", "name"] m_Guard_take) (d_Panel_wait : DfM P w K mg base cl 6 "Panel" "wait" ["self", "moment"] m_Panel_wait) (d_Panel_clock : DfM P w K mg base cl 1 "Panel" "clock" ["self"] m_Panel_clock) (d_Guard_done_by : DfM P w K mg base cl 1 "Guard" "done_by" ["self", "name"] m_Guard_done_by) : FnOk P w K mg base (L2.CX P w) 10 f fd ["script"] (spM K cl 1 m_law) :=
  Fun.fn (k := 9) (g := g_law) F (by rfl) (sc := ss_law) (by rfl) (by rfl) sc_law fun cdv A outer s H E e hr => by
    refine dss_cons ?_ ?_
    · refine ds_set (i := 1) sc_law.nd (by exact rfl) (by exact (Or.inr rfl)) ?_
      exact (de_call d_law_house hr (by decide) (by exact rfl) (by exact takes_of rfl rfl rfl rfl) (da_cons (de_v 0 (pv 0)) (da_cons de_int da_nil)))
    refine dss_cons ?_ ?_
    · refine ds_set (i := 2) sc_law.nd (by exact rfl) (by exact (Or.inr rfl)) ?_
      exact (de_bin o_add de_int (de_call d_law_drawn hr (by decide) (by exact rfl) (by exact takes_of rfl rfl rfl rfl) (da_cons (de_v 0 (pv 0)) (da_cons de_int (da_cons de_int da_nil)))))
    refine dss_cons ?_ ?_
    · refine ds_asg ?_ ?_
      · exact (DL.de (dl_comp (by exact rfl) sc_law.nd (di_rng1 (by exact rfl) B.range (da_cons de_int da_nil)) (by exact blkOk_by (N := nm_law) (sc := ss_law) (own := [("k", 4)]) (by decide +kernel)) (fun _ _ _ _ _ => (eg_name (i := 4) (by decide) sc_law.nd (by exact rfl) (by first | exact Or.inl rfl | exact Or.inr rfl))) (fun _ _ _ _ _ => dts_nil) (fun _ _ _ _ _ => (de_make d_Guard_init hr (by decide) (by exact rfl) takes0 (da_cons (de_v 1 (pv 1)) (da_cons (de_v 2 (pv 2)) (da_cons de_int (da_cons de_int (da_cons de_int (da_cons de_int da_nil))))))))))
      · exact (dg_lst (by exact rfl) (dgs_cons (dg_name (i := 7) sc_law.nd (by exact rfl) (by exact (Or.inr rfl))) (dgs_cons (dg_name (i := 8) sc_law.nd (by exact rfl) (by exact (Or.inl rfl))) dgs_nil)))
    refine dss_cons ?_ ?_
    · refine ds_setOwnD (i := 3) sc_law.nd (by exact rfl) (by exact (Or.inl rfl)) ?_
      exact dd_new0
    refine dss_cons ?_ ?_
    · refine ds_for (b := false) (by exact passes_of rfl) (by exact rfl) ?_ ?_ ?_
      · exact (di_rng1 (by exact rfl) B.range (da_cons de_int da_nil))
      · exact (dg_name (i := 4) sc_law.nd (by exact rfl) (by exact (Or.inl rfl)))
      · refine dss_cons ?_ ?_
        · refine ds_set (i := 9) sc_law.nd (by exact rfl) (by exact (Or.inl rfl)) ?_
          exact (de_ix (u1 hr) (de_lst (da_cons (de_tup da_nil) (da_cons (de_tup (da_cons de_str da_nil)) (da_cons (de_tup (da_cons de_str da_nil)) (da_cons (de_tup (da_cons de_str (da_cons de_str da_nil))) da_nil))))) (de_call d_law_drawn hr (by decide) (by exact rfl) (by exact takes_of rfl rfl rfl rfl) (da_cons (de_v 0 (pv 0)) (da_cons (de_bin o_add de_int (de_v 4 (pv 4))) (da_cons de_int da_nil)))))
        refine dss_cons ?_ ?_
        · exact ds_putOwnD (u1 hr) (pv 3) (de_ix (u1 hr) de_str (de_v 4 (pv 4))) (de_tup (da_cons (de_bin o_mulX (de_callTy c_str (by exact rfl) B.str bb_str (da_cons (de_v 4 (pv 4)) da_nil)) (de_bin o_add de_int (de_bin o_mod (de_v 4 (pv 4)) de_int))) (da_cons (de_v 9 (pv 9)) da_nil)))
        refine dss_one ?_
        refine ds_expr ?_
        exact (de_meth d_Guard_give C.k_Guard hr (by decide) (by exact takes_of rfl rfl rfl rfl) (de_v 7 (pv 7)) (da_cons (de_ix (u1 hr) de_str (de_v 4 (pv 4))) (da_cons (de_ix (u1 hr) (de_ixOwnD (u1 hr) (pv 3) (de_ix (u1 hr) de_str (de_v 4 (pv 4)))) de_int) (da_cons (de_v 9 (pv 9)) da_nil))))
    refine dss_freeze 3 ?_
    refine dss_cons ?_ ?_
    · refine ds_setOwn (i := 5) sc_law.nd (by exact rfl) (by exact (Or.inl rfl)) ?_
      exact (dl_new (da_cons de_str (da_cons de_str (da_cons de_str (da_cons de_str da_nil)))))
    refine dss_cons ?_ ?_
    · refine ds_asg ?_ ?_
      · exact (de_tup (da_cons de_int (da_cons de_bl da_nil)))
      · exact (dg_tup (by exact rfl) (dgs_cons (dg_name (i := 10) sc_law.nd (by exact rfl) (by exact (Or.inl rfl))) (dgs_cons (dg_name (i := 11) sc_law.nd (by exact rfl) (by exact (Or.inl rfl))) dgs_nil)))
    refine dss_cons ?_ ?_
    · refine ds_for (b := false) (by exact passes_of rfl) (by exact rfl) ?_ ?_ ?_
      · exact (di_rng1 (by exact rfl) B.range (da_cons (de_callB (c_max (by exact rfl)) (by exact rfl) B.max bb_max (da_cons de_int (da_cons (de_callB (c_min (by exact rfl)) (by exact rfl) B.min bb_min (da_cons de_int (da_cons (de_callB c_len (by exact rfl) B.len bb_len (da_cons (de_v 0 (pv 0)) da_nil)) da_nil))) da_nil))) da_nil))
      · exact (dg_name (i := 4) sc_law.nd (by exact rfl) (by exact (Or.inl rfl)))
      · refine dss_cons ?_ ?_
        · refine ds_set (i := 10) sc_law.nd (by exact rfl) (by exact (Or.inl rfl)) ?_
          exact (de_bin o_add (de_v 10 (pv 10)) (de_call d_law_drawn hr (by decide) (by exact rfl) (by exact takes_of rfl rfl rfl rfl) (da_cons (de_v 0 (pv 0)) (da_cons (de_bin o_add de_int (de_bin o_mulX de_int (de_v 4 (pv 4)))) (da_cons de_int da_nil)))))
        refine dss_cons ?_ ?_
        · refine ds_set (i := 12) sc_law.nd (by exact rfl) (by exact (Or.inl rfl)) ?_
          exact (de_ix (u1 hr) de_str (de_call d_law_drawn hr (by decide) (by exact rfl) (by exact takes_of rfl rfl rfl rfl) (da_cons (de_v 0 (pv 0)) (da_cons (de_bin o_add de_int (de_bin o_mulX de_int (de_v 4 (pv 4)))) (da_cons de_int da_nil)))))
        refine dss_cons ?_ ?_
        · refine ds_set (i := 13) sc_law.nd (by exact rfl) (by exact (Or.inl rfl)) ?_
          exact (de_ix (u1 hr) (de_lst (da_cons de_str (da_cons de_str da_nil))) (de_call d_law_drawn hr (by decide) (by exact rfl) (by exact takes_of rfl rfl rfl rfl) (da_cons (de_v 0 (pv 0)) (da_cons (de_bin o_add de_int (de_bin o_mulX de_int (de_v 4 (pv 4)))) (da_cons de_int da_nil)))))
        refine dss_cons ?_ ?_
        · refine ds_set (i := 14) sc_law.nd (by exact rfl) (by exact (Or.inl rfl)) ?_
          exact (de_meth0 d_Panel_log C.k_Panel hr (by decide) (by exact takes_of rfl rfl rfl rfl) (de_meth0 d_Guard_shown C.k_Guard hr (by decide) (by exact takes_of rfl rfl rfl rfl) (de_v 7 (pv 7))))
        refine dss_cons ?_ ?_
        · refine ds_set (i := 15) sc_law.nd (by exact rfl) (by exact (Or.inl rfl)) ?_
          exact (de_call d_law_told hr (by decide) (by exact rfl) (by exact takes_of rfl rfl rfl rfl) (da_cons (de_v 7 (pv 7)) (da_cons (de_v 13 (pv 13)) (da_cons (de_ix (u1 hr) (de_ix (u1 hr) (de_v 3 (pv 3)) (de_v 12 (pv 12))) de_int) (da_cons (de_v 10 (pv 10)) da_nil)))))
        refine dss_cons ?_ ?_
        · refine ds_set (i := 16) sc_law.nd (by exact rfl) (by exact (Or.inl rfl)) ?_
          exact (de_ifExp (dt_cmp (o_eq (u64 hr)) (de_v 13 (pv 13)) de_str (nomark _)) de_str de_str)
        refine dss_cons ?_ ?_
        · refine ds_if ?_ ?_ ?_
          · exact (dt_notinOwn (u65 hr) (de_v 12 (pv 12)) (pv 5) (by exact rfl))
          · refine dss_one ?_
            refine ds_set (i := 17) sc_law.nd (by exact rfl) (by exact (Or.inl rfl)) ?_
            exact de_int
          · refine dss_one ?_
            refine ds_if ?_ ?_ ?_
            · exact (dt_cmp (o_notinX (u65 hr)) (de_v 16 (pv 16)) (de_ix (u1 hr) (de_ix (u1 hr) (de_v 3 (pv 3)) (de_v 12 (pv 12))) de_int) (by exact rfl))
            · refine dss_one ?_
              refine ds_set (i := 17) sc_law.nd (by exact rfl) (by exact (Or.inl rfl)) ?_
              exact de_int
            · refine dss_one ?_
              refine ds_if ?_ ?_ ?_
              · exact (dt_cmp (o_eq (u64 hr)) (de_v 11 (pv 11)) (de_cmp (o_eq (u64 hr)) (de_v 13 (pv 13)) de_str (nomark _)) (nomark _))
              · refine dss_one ?_
                refine ds_set (i := 17) sc_law.nd (by exact rfl) (by exact (Or.inl rfl)) ?_
                exact (de_ifExp (dt_val (de_v 11 (pv 11))) de_int de_int)
              · refine dss_cons ?_ ?_
                · refine ds_set (i := 11) sc_law.nd (by exact rfl) (by exact (Or.inl rfl)) ?_
                  exact (de_cmp (o_eq (u64 hr)) (de_v 13 (pv 13)) de_str (nomark _))
                refine dss_one ?_
                refine ds_set (i := 17) sc_law.nd (by exact rfl) (by exact (Or.inl rfl)) ?_
                exact (de_tup (da_cons (de_v 12 (pv 12)) (da_cons (de_ifExp (dt_val (de_v 11 (pv 11))) de_str (de_ifExp (dt_val (de_isi isT_tup (de_v 15 (pv 15)) (by exact rfl) B.isinstance (by exact rfl) B.tuple bb_tuple)) (de_ix (u1 hr) (de_v 15 (pv 15)) de_int) de_str)) da_nil)))
        refine dss_cons ?_ ?_
        · refine ds_if ?_ ?_ ?_
          · exact (DW.pt (dw_or (dt_neDis (u64 hr) (de_lst (da_cons (de_v 15 (pv 15)) (da_cons (de_meth0 d_Guard_names C.k_Guard hr (by decide) (by exact takes_of rfl rfl rfl rfl) (de_v 7 (pv 7))) da_nil))) (pa_cons (de_v 17 (pv 17)) (pa_cons (pv 5) pa_nil)) (by exact rfl)) (dw_or1 (dt_cmp (o_ne (u64 hr)) (de_cmp (o_eq (u64 hr)) (de_meth0 d_Panel_log C.k_Panel hr (by decide) (by exact takes_of rfl rfl rfl rfl) (de_meth0 d_Guard_shown C.k_Guard hr (by decide) (by exact takes_of rfl rfl rfl rfl) (de_v 7 (pv 7)))) (de_v 14 (pv 14)) (nomark _)) (de_isi isT_int (de_v 17 (pv 17)) (by exact rfl) B.isinstance (by exact rfl) B.int bb_int) (nomark _)))))
          · refine dss_one ?_
            refine ds_ret ?_
            exact de_bl
          · exact dss_nil
        refine dss_one ?_
        refine ds_if ?_ ?_ ?_
        · exact (DW.pt (dw_and (dt_cmp (o_eq (u64 hr)) (de_call d_law_drawn hr (by decide) (by exact rfl) (by exact takes_of rfl rfl rfl rfl) (da_cons (de_v 0 (pv 0)) (da_cons (de_bin o_add de_int (de_bin o_mulX de_int (de_v 4 (pv 4)))) (da_cons de_int da_nil)))) de_int (nomark _)) (dw_and1 (dt_inOwn (u65 hr) (de_v 12 (pv 12)) (pv 5) (by exact rfl)))))
        · refine dss_cons ?_ ?_
          · refine ds_removeS (pv 5) ?_
            exact (da_cons (de_v 12 (pv 12)) da_nil)
          refine dss_one ?_
          refine ds_if ?_ ?_ ?_
          · exact (dt_cmp (o_ne (u64 hr)) (de_meth d_Guard_take C.k_Guard hr (by decide) (by exact takes_of rfl rfl rfl rfl) (de_v 7 (pv 7)) (da_cons (de_v 12 (pv 12)) da_nil)) (de_ix (u1 hr) (de_v 3 (pv 3)) (de_v 12 (pv 12))) (nomark _))
          · refine dss_one ?_
            refine ds_ret ?_
            exact de_bl
          · exact dss_nil
        · exact dss_nil
    refine dss_freeze 5 ?_
    refine dss_cons ?_ ?_
    · refine ds_expr ?_
      exact (de_meth d_Panel_wait C.k_Panel hr (by decide) (by exact takes_of rfl rfl rfl rfl) (de_meth0 d_Guard_shown C.k_Guard hr (by decide) (by exact takes_of rfl rfl rfl rfl) (de_v 7 (pv 7))) (da_cons (de_bin o_add (de_v 10 (pv 10)) de_int) da_nil))
    refine dss_cons ?_ ?_
    · refine ds_if ?_ ?_ ?_
      · exact (DW.pt (dw_or (dt_cmp o_gt (de_meth0 d_Panel_clock C.k_Panel hr (by decide) (by exact takes_of rfl rfl rfl rfl) (de_meth0 d_Guard_shown C.k_Guard hr (by decide) (by exact takes_of rfl rfl rfl rfl) (de_v 7 (pv 7)))) (de_v 10 (pv 10)) (nomark _)) (dw_or (dt_cmp (o_ne (u64 hr)) (de_meth0 d_Guard_names C.k_Guard hr (by decide) (by exact takes_of rfl rfl rfl rfl) (de_v 8 (pv 8))) (de_lst da_nil) (nomark _)) (dw_or1 (dt_cmp (o_ne (u64 hr)) (de_meth0 d_Panel_log C.k_Panel hr (by decide) (by exact takes_of rfl rfl rfl rfl) (de_meth0 d_Guard_shown C.k_Guard hr (by decide) (by exact takes_of rfl rfl rfl rfl) (de_v 8 (pv 8)))) (de_lst da_nil) (nomark _))))))
      · refine dss_one ?_
        refine ds_ret ?_
        exact de_bl
      · exact dss_nil
    refine dss_cons ?_ ?_
    · refine ds_set (i := 6) sc_law.nd (by exact rfl) (by exact (Or.inl rfl)) ?_
      exact (de_callB (c_sum (by exact rfl)) (by exact rfl) B.sum bb_sum (da_cons (DL.de (dl_comp (by exact rfl) sc_law.nd (di_seq de_str) (by exact blkOk_by (N := nm_law) (sc := ss_law) (own := [("name", 12)]) (by decide +kernel)) (fun _ _ _ _ _ => (eg_name (i := 12) (by decide) sc_law.nd (by exact rfl) (by first | exact Or.inl rfl | exact Or.inr rfl))) (fun _ _ _ _ _ => dts_nil) (fun _ _ _ _ _ => (de_callB c_len (by exact rfl) B.len bb_len (da_cons (de_meth d_Guard_done_by C.k_Guard hr (by decide) takes0 (de_v 7 (pv 7)) (da_cons (de_v 12 (pv 12)) da_nil)) da_nil))))) da_nil))
    refine dss_one ?_
    refine ds_ret ?_
    exact (de_and (de_cmp (o_eq (u64 hr)) (de_v 6 (pv 6)) (de_callB c_len (by exact rfl) B.len bb_len (da_cons (de_meth0 d_Panel_log C.k_Panel hr (by decide) (by exact takes_of rfl rfl rfl rfl) (de_meth0 d_Guard_shown C.k_Guard hr (by decide) (by exact takes_of rfl rfl rfl rfl) (de_v 7 (pv 7)))) da_nil)) (nomark _)) (de_one (de_cmp (o_eq (u64 hr)) (de_meth d_Guard_done_by C.k_Guard hr (by decide) (by exact takes_of rfl rfl rfl rfl) (de_v 8 (pv 8)) (da_cons de_str da_nil)) (de_lst da_nil) (nomark _))))
end
end BW
namespace BW
open PySem L2
def cellF (ns : List Int) (k : Int) : Int := if ns = [] then 7 * k else (ns[(k % (ns.length : Int)).toNat]?).getD 0 + 6553 * (k / (ns.length : Int))
theorem atI_emod {ns : List Int} (h : ns ≠ []) (k : Int) : atI ns (k % (ns.length : Int)) = some ((ns[(k % (ns.length : Int)).toNat]?).getD 0) := by
  have hl : 0 < ns.length := List.length_pos_iff.mpr h
  have h1 : 0 ≤ k % (ns.length : Int) := Int.emod_nonneg k (by omega)
  have h2 : k % (ns.length : Int) < ns.length := Int.emod_lt_of_pos k (by omega)
  have hj : (k % (ns.length : Int)).toNat < ns.length := by omega
  unfold atI ixN
  rw [if_pos h1, if_pos h2]
  simp [hj]
theorem deq_scr_nil (ns : List Int) : deq (.scr ns) (.lst []) = decide (ns = []) := by
  cases ns with
  | nil => rfl
  | cons n ns => rfl
theorem cell_ev (ns : List Int) (hn : ns.length ≤ 63) (k : Int) (S : Store) : m_law_cell [.scr ns, .int k] S = .ok (.int (cellF ns k)) S := by
  have q : gEq false (.scr ns) (.lst []) S = some (.bl (decide (ns = []))) := by rw [eq_ok S false rfl rfl, deq_scr_nil, Bool.false_xor]
  have m1 : ∀ j, gMul (.int 7) (.int j) S = some (.int (7 * j)) := fun j => mul_ok S (.inl (by decide))
  have m2 : ∀ j, gMul (.int 6553) (.int j) S = some (.int (6553 * j)) := fun j => mul_ok S (.inl (by decide))
  have z : ([] : List D).length ≤ LIM := lim_small (by decide)
  unfold m_law_cell g_law_cell
  by_cases h : ns = []
  · subst h
    simp [fV, q, m1, cellF, lim_small]
  · have hl : 0 < ns.length := List.length_pos_iff.mpr h
    have hl2 : (0 : Int) < ns.length := by omega
    have ix : gIx (.scr ns) (.int (k % (ns.length : Int))) S = some (.int ((ns[(k % (ns.length : Int)).toNat]?).getD 0)) := by
      show (atI ns _).map D.int = _
      rw [atI_emod h]; rfl
    simp [fV, q, h, m2, cellF, lim_small, mod_ok S hl2, fdiv_ok S hl2 (show (ns.length : Int) < 1073741824 by omega), ix]
def d1 (ns : List Int) (k : Int) : Int := (cellF ns k % 2147483563 * 69069 + 104723 * (k + 1)) % 2147483563
def d2 (ns : List Int) (k : Int) : Int := (d1 ns k * d1 ns k + d1 ns k / 3) % 2147483399
def drawnF (ns : List Int) (k many : Int) : Int := (d2 ns k * d2 ns k + d2 ns k / 7) % 2147483647 / 11 % many
theorem drawn_ev (ns : List Int) (hn : ns.length ≤ 63) (k many : Int) (hm : 0 < many) (S : Store) : m_law_drawn [.scr ns, .int k, .int many] S = .ok (.int (drawnF ns k many)) S := by
  have a1 : -(2 ^ 64) < cellF ns k % 2147483563 ∧ cellF ns k % 2147483563 < 2 ^ 64 := by omega
  have a2 : -(2 ^ 64) < d1 ns k ∧ d1 ns k < 2 ^ 64 := by unfold d1; omega
  have a3 : -(2 ^ 64) < d2 ns k ∧ d2 ns k < 2 ^ 64 := by unfold d2; omega
  have e1 := mul_ok S (i := cellF ns k % 2147483563) (j := 69069) (.inl a1)
  have e2 := mul_ok S (i := d1 ns k) (j := d1 ns k) (.inl a2)
  have e3 := mul_ok S (i := d2 ns k) (j := d2 ns k) (.inl a3)
  have e4 := mul_ok S (i := 104723) (j := k + 1) (.inl (by decide))
  have f1 := fun i => mod_ok S (i := i) (j := 2147483563) (by decide)
  have f2 := fun i => mod_ok S (i := i) (j := 2147483399) (by decide)
  have f3 := fun i => mod_ok S (i := i) (j := 2147483647) (by decide)
  have f4 := fun i => fdiv_ok S (i := i) (j := 3) (by decide) (by decide)
  have f5 := fun i => fdiv_ok S (i := i) (j := 7) (by decide) (by decide)
  have f6 := fun i => fdiv_ok S (i := i) (j := 11) (by decide) (by decide)
  have f7 := fun i => mod_ok S (i := i) (j := many) hm
  have x1 : (cellF ns k % 2147483563 * 69069 + 104723 * (k + 1)) % 2147483563 = d1 ns k := rfl
  have x2 : (d1 ns k * d1 ns k + d1 ns k / 3) % 2147483399 = d2 ns k := rfl
  unfold m_law_drawn g_law_drawn
  simp [fV, cell_ev ns hn, f1, e1, e4, x1, f4, e2, f2, x2, e3, f5, f3, f6, f7]
  rfl
theorem drawn_lt (ns : List Int) (k : Int) {many : Int} (h : 0 < many) : 0 ≤ drawnF ns k many ∧ drawnF ns k many < many := ⟨Int.emod_nonneg _ (by omega), Int.emod_lt_of_pos _ h⟩
inductive How where
  | soon | late | after | ever
  deriving DecidableEq
def How.s : How → Str
  | .soon => "soon"
  | .late => "late"
  | .after => "after"
  | .ever => "ever"
structure Eye where
  dr : Bool
  num : Int
  how : How
  deriving DecidableEq
def wS (b : Bool) : Str := if b = true then "door" else "room"
def eD (e : Eye) : D := .tup [.str (wS e.dr), .int e.num, .str e.how.s]
def mD (m : List Int) : D := .tup (m.map .int)
structure Hs where
  many : Int
  doors : List (Int × Int)
  eyes : List Eye
  modes : List (List Int)
def hD (h : Hs) : D := .tup [.int h.many, .tup (h.doors.map pD), .tup (h.eyes.map eD), .tup (h.modes.map mD)]
def Eye.ok (many : Int) (nd : Nat) (e : Eye) : Prop := if e.dr = true then 0 ≤ e.num ∧ e.num < nd else 1 ≤ e.num ∧ e.num < many
def modeOk (ne : Nat) (m : List Int) : Prop := (∀ x ∈ m, 0 ≤ x ∧ x < ne) ∧ m.Pairwise (· < ·)
structure Hs.Ok (h : Hs) : Prop where
  many : 2 ≤ h.many ∧ h.many ≤ 6
  doors : ∀ p ∈ h.doors, 0 ≤ p.1 ∧ p.1 < p.2 ∧ p.2 < h.many
  rise : Ri pairK h.doors
  nd : h.doors.length ≤ 10
  eyes : ∀ e ∈ h.eyes, e.ok h.many h.doors.length
  dif : (h.eyes.map fun e => (e.dr, e.num)).Nodup
  ne : h.eyes.length ≤ 12
  nm : 1 ≤ h.modes.length ∧ h.modes.length ≤ 3
  modes : ∀ m ∈ h.modes, modeOk h.eyes.length m
@[simp] theorem how_ok (h : How) : PyData.strOk h.s = true := by cases h <;> exact ofS_ok _
@[simp] theorem wS_ok (b : Bool) : PyData.strOk (wS b) = true := by cases b <;> exact ofS_ok _
@[simp] theorem how_beq (a b : How) : (a.s == b.s) = decide (a = b) := by cases a <;> cases b <;> simp [How.s]
@[simp] theorem wS_beq (a b : Bool) : (wS a == wS b) = (a == b) := by cases a <;> cases b <;> simp [wS]
@[simp] theorem ok_eD (n : Nat) (e : Eye) : okD (n + 1) (eD e) = true := by simp [eD]
@[simp] theorem ok_mD (n : Nat) (e : List Int) : okD (n + 1) (mD e) = true := by simp [mD]
def inB (lo hi i : Int) : Bool := decide (lo ≤ i ∧ i ≤ hi)
theorem inB_yes {lo hi i : Int} (h : lo ≤ i ∧ i ≤ hi) : inB lo hi i = true := decide_eq_true h
theorem inB_no {lo hi i : Int} (h : ¬ (lo ≤ i ∧ i ≤ hi)) : inB lo hi i = false := decide_eq_false h
theorem inB_iff {lo hi i : Int} : inB lo hi i = true ↔ lo ≤ i ∧ i ≤ hi := decide_eq_true_iff
instance (ne : Nat) (m : List Int) : Decidable (modeOk ne m) := by unfold modeOk; exact inferInstance
section
variable (S : Store)
theorem num_ev (i lo hi : Int) : m_is_number [.int i, .int lo, .int hi] S = .ok (.bl (inB lo hi i)) S := by
  by_cases h : lo ≤ i
  · simp [m_is_number, g_is_number, isIntD, isBoolD, gI2, h, inB]
  · simp [m_is_number, g_is_number, isIntD, isBoolD, gI2, h, inB]
def zipR {α : Type} (l : List α) : List (α × α) := l.zip l.tail
theorem rise_of {α : Type} (R : α → α → Prop) [DecidableRel R] (tr : ∀ a b c, R a b → R b c → R a c) : ∀ l : List α, (zipR l).all (fun p => decide (R p.1 p.2)) = true ↔ l.Pairwise R
  | [] => by simp [zipR]
  | [a] => by simp [zipR]
  | a :: b :: l => by
    have ih := rise_of R tr (b :: l)
    unfold zipR at *
    simp only [List.tail_cons, List.zip_cons_cons, List.all_cons, Bool.and_eq_true, decide_eq_true_eq] at *
    rw [ih, List.pairwise_cons (a := a)]
    constructor
    · rintro ⟨h1, h2⟩
      refine ⟨fun c hc => ?_, h2⟩
      rcases List.mem_cons.mp hc with e | e
      · rw [e]; exact h1
      · exact tr a b c h1 ((List.pairwise_cons.mp h2).1 c e)
    · rintro ⟨h1, h2⟩
      exact ⟨h1 b List.mem_cons_self, h2⟩
theorem rise_ints (ns : List Int) (hl : ns.length ≤ 80000) : m_do_rise [.tup (ns.map .int)] S = .ok (.bl (decide (ns.Pairwise (· < ·)))) S := by
  have z : kZip [.tup (ns.map D.int), .tup (ns.map D.int).tail] = some ((zipR ns).map fun p => .tup [.int p.1, .int p.2]) := by
    show some (zipD _ _) = _
    rw [← List.map_tail, zip_map]; rfl
  have c := compM (e := fun p : Int × Int => D.tup [.int p.1, .int p.2]) (t := tgTup 2 (tgCons (tgName 1) (tgCons (tgName 2) tgNil))) (fe := f2 gLt (fV 1) (fV 2)) (ρ := [some (.dat (.tup (ns.map D.int))), none, none]) (S := S) (fun p => .bl (decide (p.1 < p.2))) (xs := zipR ns) (by unfold zipR; simp; omega)
    (fun x _ => ⟨_, by simp; rfl, by simp [gLt]⟩)
  have a := all_map S (fun p : Int × Int => decide (p.1 < p.2)) (zipR ns)
  have e : (zipR ns).all (fun p => decide (p.1 < p.2)) = decide (ns.Pairwise (· < ·)) := by
    rw [Bool.eq_iff_iff, decide_eq_true_eq]
    exact rise_of (· < ·) (fun a b c h1 h2 => Int.lt_trans h1 h2) ns
  rw [e] at a
  simp [m_do_rise, g_do_rise, gCut, cut_from1, z, wipeE, c, a]
def ltP (p q : Int × Int) : Prop := p.1 < q.1 ∨ (p.1 = q.1 ∧ p.2 < q.2)
instance : DecidableRel ltP := fun p q => by unfold ltP; exact inferInstance
theorem lex_pair (p q : Int × Int) : gLt (pD p) (pD q) S = some (.bl (decide (ltP p q))) := by
  simp only [gLt, pD, ints?, HT.lexLt, Option.map_some, Option.some.injEq, D.bl.injEq]
  rw [Bool.eq_iff_iff, decide_eq_true_eq]
  unfold ltP
  by_cases h1 : p.1 = q.1
  · by_cases h2 : p.2 = q.2 <;> simp [h1, h2]
  · simp [h1]
theorem ri_ltP {l : List (Int × Int)} (hb : ∀ p ∈ l, bdP p = true) (h : Ri pairK l) : l.Pairwise ltP := by
  induction l with
  | nil => exact .nil
  | cons x l ih =>
    obtain ⟨h1, h2⟩ := List.pairwise_cons.mp h
    refine List.pairwise_cons.mpr ⟨fun y hy => ?_, ih (fun p hp => hb p (List.mem_cons_of_mem _ hp)) h2⟩
    have := h1 y hy
    have b1 := hb x List.mem_cons_self
    have b2 := hb y (List.mem_cons_of_mem _ hy)
    unfold bdP at b1 b2
    simp only [decide_eq_true_eq] at b1 b2
    unfold pairK at this
    unfold ltP
    omega
theorem rise_pairs (ps : List (Int × Int)) (hl : ps.length ≤ 80000) : m_do_rise [.tup (ps.map pD)] S = .ok (.bl (decide (ps.Pairwise ltP))) S := by
  have z : kZip [.tup (ps.map pD), .tup (ps.map pD).tail] = some ((zipR ps).map fun p => .tup [pD p.1, pD p.2]) := by
    show some (zipD _ _) = _
    rw [← List.map_tail, zip_map]; rfl
  have c := compM (e := fun p : (Int × Int) × (Int × Int) => D.tup [pD p.1, pD p.2]) (t := tgTup 2 (tgCons (tgName 1) (tgCons (tgName 2) tgNil))) (fe := f2 gLt (fV 1) (fV 2)) (ρ := [some (.dat (.tup (ps.map pD))), none, none]) (S := S) (fun p => .bl (decide (ltP p.1 p.2))) (xs := zipR ps) (by unfold zipR; simp; omega)
    (fun x _ => ⟨_, by simp; rfl, by simp [lex_pair]⟩)
  have a := all_map S (fun p : (Int × Int) × (Int × Int) => decide (ltP p.1 p.2)) (zipR ps)
  have e : (zipR ps).all (fun p => decide (ltP p.1 p.2)) = decide (ps.Pairwise ltP) := by
    rw [Bool.eq_iff_iff, decide_eq_true_eq]
    exact rise_of ltP (fun a b c h1 h2 => by unfold ltP at *; omega) ps
  rw [e] at a
  simp [m_do_rise, g_do_rise, gCut, cut_from1, z, wipeE, c, a]
theorem doors_ok (h : Hs) (hb : ∀ p ∈ h.doors, 0 ≤ p.1 ∧ p.1 < p.2 ∧ p.2 < h.many) (nd : h.doors.length ≤ 10) (ri : h.doors.Pairwise ltP) : m_are_doors [.tup (h.doors.map pD), .int h.many] S = .ok (.bl true) S := by
  obtain ⟨ρ', e, x, rfl⟩ := forI (e := pD) (t := tgName 2) (g := b_are_doors_1) (S := S) (fun _ ρ => ∃ x, ρ = [some (.dat (.tup (h.doors.map pD))), some (.dat (.int h.many)), x]) h.doors [] [some (.dat (.tup (h.doors.map pD))), some (.dat (.int h.many)), none] ⟨_, rfl⟩ (fun d p r ρ hd ⟨x, hx⟩ => by
    subst hx
    have hp := hb p (by rw [List.nil_append] at hd; rw [hd]; simp)
    refine ⟨_, [some (.dat (.tup (h.doors.map pD))), some (.dat (.int h.many)), some (.dat (pD p))], rfl, ?_, ⟨_, rfl⟩⟩
    have n1 := num_ev S p.1 0 (h.many - 1)
    rw [inB_yes (by omega)] at n1
    have n2 := num_ev S p.2 (p.1 + 1) (h.many - 1)
    rw [inB_yes (by omega)] at n2
    have i0 : gIx (.tup [.int p.1, .int p.2]) (.int 0) S = some (.int p.1) := rfl
    have i1 : gIx (.tup [.int p.1, .int p.2]) (.int 1) S = some (.int p.2) := rfl
    simp [b_are_doors_1, pD, isTupD, i0, i1, n1, n2])
  have r := rise_pairs S h.doors (by omega)
  rw [decide_eq_true ri] at r
  have l10 : ¬ (10 < (h.doors.length : Int)) := by omega
  simp [m_are_doors, g_are_doors, isTupD, gI2, l10, e, r]
theorem in_hows (h : How) : gIn true (.str h.s) (.tup [.str "soon", .str "late", .str "after", .str "ever"]) S = some (.bl false) := by
  cases h <;> simp [gIn, How.s, deq_str]
theorem eq_str (neg : Bool) (a b : Str) (ha : PyData.strOk a = true) (hb : PyData.strOk b = true) : gEq neg (.str a) (.str b) S = some (.bl (xor neg (a == b))) := by
  rw [eq_ok S neg (by simpa using ha) (by simpa using hb), deq_str]
theorem eye_ok (many : Int) (ds : List (Int × Int)) (e : Eye) (h : e.ok many ds.length) : m_is_eye [eD e, .int many, .tup (ds.map pD)] S = .ok (.bl true) S := by
  have i0 : gIx (.tup [.str (wS e.dr), .int e.num, .str e.how.s]) (.int 0) S = some (.str (wS e.dr)) := rfl
  have i1 : gIx (.tup [.str (wS e.dr), .int e.num, .str e.how.s]) (.int 1) S = some (.int e.num) := rfl
  have i2 : gIx (.tup [.str (wS e.dr), .int e.num, .str e.how.s]) (.int 2) S = some (.str e.how.s) := rfl
  have n := in_hows S e.how
  have q1 := eq_str S false (wS e.dr) "door" (by simp) (by simp)
  have q2 := eq_str S false (wS e.dr) "room" (by simp) (by simp)
  unfold Eye.ok at h
  cases hd : e.dr with
  | true =>
    rw [hd] at i0 i1 i2 q1
    rw [if_pos hd] at h
    have n1 := num_ev S e.num 0 ((ds.length : Int) - 1)
    rw [inB_yes (by omega)] at n1
    simp only [wS, if_true] at q1 i0 i1 i2
    simp [m_is_eye, g_is_eye, eD, hd, wS, isTupD, isStrD, i0, i1, i2, n, q1, n1]
  | false =>
    rw [hd] at i0 i1 i2 q1 q2
    rw [if_neg (by simp [hd])] at h
    have n1 := num_ev S e.num 1 (many - 1)
    rw [inB_yes (by omega)] at n1
    simp only [wS, Bool.false_eq_true, if_false] at q1 q2 i0 i1 i2
    simp [m_is_eye, g_is_eye, eD, hd, wS, isTupD, isStrD, i0, i1, i2, n, q1, q2, n1]
def placeD (e : Eye) : D := .tup [.str (wS e.dr), .int e.num]
theorem tkeys_places : ∀ l : List Eye, tkeys? (l.map placeD) = some (l.map fun e => [.inr (wS e.dr), .inl e.num])
  | [] => rfl
  | e :: l => by simp [tkeys?, keyL?, placeD, tkeys_places l]
theorem wS_inj {a b : Bool} (h : wS a = wS b) : a = b := by
  have := wS_beq a b
  rw [h] at this
  simpa using this.symm
theorem ints_places (l : List Eye) (h : l ≠ []) : ints? (l.map placeD) = none := by
  cases l with
  | nil => exact absurd rfl h
  | cons e l => rfl
theorem eyes_ok (many : Int) (ds : List (Int × Int)) (es : List Eye) (h : ∀ e ∈ es, e.ok many ds.length) (dif : (es.map fun e => (e.dr, e.num)).Nodup) (ne : es.length ≤ 12) : m_are_eyes [.tup (es.map eD), .int many, .tup (ds.map pD)] S = .ok (.bl true) S := by
  have c1 := compM (e := eD) (t := tgName 3) (fe := fM 3 m_is_eye (fCons (fV 3) (fCons (fV 1) (fCons (fV 2) fNil)))) (ρ := [some (.dat (.tup (es.map eD))), some (.dat (.int many)), some (.dat (.tup (ds.map pD))), none]) (S := S) (fun _ => .bl true) (xs := es) (by omega)
    (fun x hx => ⟨_, rfl, by simp [eye_ok S many ds x (h x hx)]⟩)
  have c2 := compM (e := eD) (t := tgName 3) (fe := fCut (fV 3) oNone (oSome (fC (.int 2)))) (ρ := [some (.dat (.tup (es.map eD))), some (.dat (.int many)), some (.dat (.tup (ds.map pD))), none]) (S := S) placeD (xs := es) (by omega)
    (fun x hx => ⟨_, rfl, by simp [gCut, eD, cut_to2, placeD]⟩)
  have a := all_map S (fun _ : Eye => true) es
  have l12 : ¬ (12 < (es.length : Int)) := by omega
  have ls : gLenSet [.lst (es.map placeD)] S = some (.int (es.length : Nat)) := by
    by_cases e0 : es = []
    · subst e0; rfl
    · simp only [gLenSet, ints_places es e0, tkeys_places, List.length_map]
      rw [if_pos (by omega), ddup_id, List.length_map]
      refine List.Pairwise.imp ?_ (List.pairwise_map.mp dif) |> List.pairwise_map.mpr
      intro x y hne he
      simp only [List.cons.injEq, Sum.inr.injEq, Sum.inl.injEq, and_true] at he
      exact hne (Prod.ext (wS_inj he.1) he.2)
  have al : es.all (fun _ => true) = true := by simp
  rw [al] at a
  simp [m_are_eyes, g_are_eyes, isTupD, gI2, l12, wipeE, c1, a, c2, ls]
theorem mode_ev (ne : Nat) (m : List Int) (hl : m.length ≤ 80000) : m_is_mode [mD m, .int ne] S = .ok (.bl (decide (modeOk ne m))) S := by
  have c1 := compM (e := D.int) (t := tgName 2) (fe := fM 3 m_is_number (fCons (fV 2) (fCons (fC (.int 0)) (fCons (f2 gSub (fV 1) (fC (.int 1))) fNil)))) (ρ := [some (.dat (mD m)), some (.dat (.int ne)), none]) (S := S) (fun i => .bl (inB 0 ((ne : Int) - 1) i)) (xs := m) (by omega)
    (fun x hx => ⟨_, rfl, by simp [num_ev]⟩)
  have a := all_map S (fun i : Int => inB 0 ((ne : Int) - 1) i) m
  have r := rise_ints S m hl
  unfold mD at *
  have e : decide (modeOk ne m) = (m.all (fun i : Int => inB 0 ((ne : Int) - 1) i) && decide (m.Pairwise (· < ·))) := by
    rw [Bool.eq_iff_iff, Bool.and_eq_true, decide_eq_true_eq, decide_eq_true_eq, List.all_eq_true]
    unfold modeOk
    refine and_congr_left fun _ => ⟨fun h x hx => by have := h x hx; exact inB_yes (by omega), fun h x hx => by have := inB_iff.mp (h x hx); omega⟩
  rw [e]
  by_cases hm : m.all (fun i : Int => inB 0 ((ne : Int) - 1) i) = true
  · rw [hm] at a ⊢
    simp [m_is_mode, g_is_mode, isTupD, wipeE, c1, a, r]
  · rw [Bool.not_eq_true] at hm
    rw [hm] at a ⊢
    simp [m_is_mode, g_is_mode, isTupD, wipeE, c1, a, r]
theorem modes_len {ne : Nat} {m : List Int} (h : modeOk ne m) : m.length ≤ ne := by
  have h1 : (m.map Int.toNat).Nodup := by
    refine List.pairwise_map.mpr (h.2.imp_of_mem fun {a b} ha hb hab => ?_)
    have := h.1 a ha; have := h.1 b hb
    omega
  have h2 : m.map Int.toNat ⊆ List.range ne := fun x hx => by
    obtain ⟨a, ha, rfl⟩ := List.mem_map.mp hx
    have := h.1 a ha
    exact List.mem_range.mpr (by omega)
  have h3 := h1.length_le_of_subset h2
  simpa using h3
theorem house_ok (h : Hs) (g : h.Ok) : m_is_house [hD h] S = .ok (.bl true) S := by
  have n := num_ev S h.many 2 6
  rw [inB_yes g.many] at n
  have dr := doors_ok S h g.doors g.nd (ri_ltP (fun p hp => by have := g.doors p hp; have := g.many; unfold bdP; simp; omega) g.rise)
  have ey := eyes_ok S h.many h.doors h.eyes g.eyes g.dif g.ne
  have nm := g.nm
  have i0 : gIx (hD h) (.int 0) S = some (.int h.many) := rfl
  have c1 := compM (e := mD) (t := tgName 5) (fe := fM 2 m_is_mode (fCons (fV 5) (fCons (fN gLen (fCons (fV 3) fNil)) fNil))) (ρ := [some (.dat (hD h)), some (.dat (.int h.many)), some (.dat (.tup (h.doors.map pD))), some (.dat (.tup (h.eyes.map eD))), some (.dat (.tup (h.modes.map mD))), none]) (S := S) (fun _ => .bl true) (xs := h.modes) (by omega)
    (fun x hx => ⟨_, rfl, by
      have m := g.modes x hx
      have e := mode_ev S h.eyes.length x (by have := modes_len m; have := g.ne; omega)
      rw [decide_eq_true m] at e
      simp [e]⟩)
  have a := all_map S (fun _ : List Int => true) h.modes
  have al : h.modes.all (fun _ => true) = true := by simp
  rw [al] at a
  have k1 : (1 : Int) ≤ h.modes.length := by omega
  have k2 : (h.modes.length : Int) ≤ 3 := by omega
  unfold hD at *
  simp [m_is_house, g_is_house, isTupD, gI2, i0, n, dr, ey, k1, k2, wipeE, c1, a]
end
end BW
namespace BW
open PySem L2
def dStep1 (ns : List Int) (at_ : Int) (acc : List (Int × Int)) (o : Int) : List (Int × Int) := if 0 < drawnF ns (at_ + o) 6 then acc ++ [(drawnF ns (at_ + 6 + o) o, o)] else acc
def lo2 (a b : Int) : Int := if b < a then b else a
def hi2 (a b : Int) : Int := if b > a then b else a
def dStep2 (ns : List Int) (at_ many : Int) (acc : List (Int × Int)) (k : Int) : List (Int × Int) :=
  if drawnF ns (at_ + 12 + 2 * k) many = drawnF ns (at_ + 13 + 2 * k) many then acc else acc ++ [(lo2 (drawnF ns (at_ + 12 + 2 * k) many) (drawnF ns (at_ + 13 + 2 * k) many), hi2 (drawnF ns (at_ + 12 + 2 * k) many) (drawnF ns (at_ + 13 + 2 * k) many))]
def iv (lo : Int) (n : Nat) : List Int := (List.range n).map fun i : Nat => lo + (i : Int)
theorem rng_iv (lo : Int) (n : Nat) : rngD lo n = (iv lo n).map D.int := rng_map lo n
theorem iv_len (lo : Int) (n : Nat) : (iv lo n).length = n := by simp [iv]
theorem iv_mem {lo : Int} {n : Nat} {x : Int} (h : x ∈ iv lo n) : lo ≤ x ∧ x < lo + n := by
  obtain ⟨i, hi, rfl⟩ := List.mem_map.mp h
  have := List.mem_range.mp hi
  omega
def found1 (ns : List Int) (at_ many : Int) : List (Int × Int) := (iv 1 (many - 1).toNat).foldl (dStep1 ns at_) []
def found2 (ns : List Int) (at_ many : Int) : List (Int × Int) := (iv 0 (drawnF ns at_ 5).toNat).foldl (dStep2 ns at_ many) (found1 ns at_ many)
def doorsF (ns : List Int) (at_ many : Int) : List (Int × Int) := usort pairK (found2 ns at_ many)
def DoorIn (many : Int) (p : Int × Int) : Prop := 0 ≤ p.1 ∧ p.1 < p.2 ∧ p.2 < many
theorem foldl_len {α β : Type} {f : List β → α → List β} (h : ∀ acc x, (f acc x).length ≤ acc.length + 1) : ∀ (xs : List α) (acc : List β), (xs.foldl f acc).length ≤ acc.length + xs.length
  | [], acc => by simp
  | x :: xs, acc => by
    have := foldl_len h xs (f acc x)
    have := h acc x
    simp only [List.foldl_cons, List.length_cons]
    omega
theorem foldl_all {α β : Type} {f : List β → α → List β} {P : β → Prop} {xs : List α} (h : ∀ acc, ∀ x ∈ xs, (∀ y ∈ acc, P y) → ∀ y ∈ f acc x, P y) {acc : List β} (h0 : ∀ y ∈ acc, P y) : ∀ y ∈ xs.foldl f acc, P y := by
  induction xs generalizing acc with
  | nil => exact h0
  | cons x xs ih =>
    rw [List.foldl_cons]
    exact ih (fun acc x hx => h acc x (List.mem_cons_of_mem _ hx)) (h acc x List.mem_cons_self h0)
theorem s1_len (ns : List Int) (at_ : Int) (acc : List (Int × Int)) (o : Int) : (dStep1 ns at_ acc o).length ≤ acc.length + 1 := by unfold dStep1; split <;> simp
theorem s2_len (ns : List Int) (at_ many : Int) (acc : List (Int × Int)) (o : Int) : (dStep2 ns at_ many acc o).length ≤ acc.length + 1 := by unfold dStep2; split <;> simp
theorem f1_len (ns : List Int) (at_ many : Int) : (found1 ns at_ many).length ≤ (many - 1).toNat := by
  have := foldl_len (s1_len ns at_) (iv 1 (many - 1).toNat) []
  unfold found1
  rw [iv_len] at this
  simpa using this
theorem f2_len (ns : List Int) (at_ many : Int) : (found2 ns at_ many).length ≤ (many - 1).toNat + 4 := by
  have := foldl_len (s2_len ns at_ many) (iv 0 (drawnF ns at_ 5).toNat) (found1 ns at_ many)
  have h1 := f1_len ns at_ many
  have := drawn_lt ns at_ (many := 5) (by decide)
  unfold found2
  rw [iv_len] at *
  omega
theorem f1_in (ns : List Int) (at_ many : Int) : ∀ p ∈ found1 ns at_ many, DoorIn many p := by
  refine foldl_all (fun acc x hx h y hy => ?_) (fun y hy => by cases hy)
  have := iv_mem hx
  unfold dStep1 at hy
  split at hy
  · rcases List.mem_append.mp hy with c | c
    · exact h y c
    · rw [List.mem_singleton.mp c]
      have := drawn_lt ns (at_ + 6 + x) (many := x) (by omega)
      unfold DoorIn
      simp only
      omega
  · exact h y hy
theorem f2_in (ns : List Int) (at_ many : Int) (hm : 2 ≤ many) : ∀ p ∈ found2 ns at_ many, DoorIn many p := by
  refine foldl_all (fun acc x hx h y hy => ?_) (f1_in ns at_ many)
  unfold dStep2 at hy
  split at hy
  · exact h y hy
  · rename_i ne
    rcases List.mem_append.mp hy with c | c
    · exact h y c
    · rw [List.mem_singleton.mp c]
      have a := drawn_lt ns (at_ + 12 + 2 * x) (many := many) (by omega)
      have b := drawn_lt ns (at_ + 13 + 2 * x) (many := many) (by omega)
      generalize drawnF ns (at_ + 12 + 2 * x) many = u at *
      generalize drawnF ns (at_ + 13 + 2 * x) many = v at *
      unfold DoorIn lo2 hi2
      simp only
      split <;> split <;> omega
theorem door_bd {many : Int} (h : many ≤ 6) {p : Int × Int} (hp : DoorIn many p) : bdP p = true := by
  unfold DoorIn at hp
  unfold bdP
  simp
  omega
theorem doorsF_in (ns : List Int) (at_ many : Int) (hm : 2 ≤ many) : ∀ p ∈ doorsF ns at_ many, DoorIn many p := fun p hp => f2_in ns at_ many hm p (usort_sub _ _ _ hp)
theorem doorsF_len (ns : List Int) (at_ many : Int) (hm : many ≤ 6) : (doorsF ns at_ many).length ≤ 9 := by
  have := usort_len pairK (found2 ns at_ many)
  have := f2_len ns at_ many
  unfold doorsF
  omega
theorem doors_ev (ns : List Int) (hn : ns.length ≤ 63) (at_ many : Int) (h1 : 2 ≤ many) (h2 : many ≤ 6) (S : Store) : m_law_doors [.scr ns, .int at_, .int many] S = .ok (.tup ((doorsF ns at_ many).map pD)) S := by
  have z0 : (0 : Nat) ≤ LIM := lim_small (by decide)
  have z2 : (2 : Nat) ≤ LIM := lim_small (by decide)
  obtain ⟨ρ1, e1, x4, x5, x6, rfl⟩ := forI (e := D.int) (t := tgName 4) (g := b_law_doors_1) (S := S) (fun dn ρ => ∃ x4 x5 x6, ρ = [some (.dat (.scr ns)), some (.dat (.int at_)), some (.dat (.int many)), some (.own ((dn.foldl (dStep1 ns at_) []).map pD)), x4, x5, x6])
    (iv 1 (many - 1).toNat) [] [some (.dat (.scr ns)), some (.dat (.int at_)), some (.dat (.int many)), some (.own []), none, none, none] ⟨_, _, _, rfl⟩ (fun dn o r ρ hd ⟨x4, x5, x6, hx⟩ => by
    subst hx
    have mo : o ∈ iv 1 (many - 1).toNat := by rw [← List.nil_append (iv 1 _), hd]; simp
    have o1 := iv_mem mo
    have len := foldl_len (s1_len ns at_) dn []
    have dl : dn.length ≤ 5 := by
      have := congrArg List.length hd
      rw [List.nil_append, iv_len, List.length_append, List.length_cons] at this
      omega
    have lim : ((dn.foldl (dStep1 ns at_) []).map pD).length < LIM := limlt_small (by simp at len ⊢; omega)
    refine ⟨_, [some (.dat (.scr ns)), some (.dat (.int at_)), some (.dat (.int many)), some (.own (((dn ++ [o]).foldl (dStep1 ns at_) []).map pD)), some (.dat (.int o)), x5, x6], rfl, ?_, ⟨_, _, _, rfl⟩⟩
    have d6 := drawn_ev ns hn (at_ + o) 6 (by decide) S
    have dm := drawn_ev ns hn (at_ + 6 + o) o (by omega) S
    rw [List.foldl_append, List.foldl_cons, List.foldl_nil]
    generalize hacc : dn.foldl (dStep1 ns at_) [] = acc at *
    unfold dStep1
    by_cases hd6 : 0 < drawnF ns (at_ + o) 6
    · rw [List.length_map] at lim
      simp [b_law_doors_1, d6, dm, gI2, hd6, sAppend, lim, z2, pD]
    · simp [b_law_doors_1, d6, gI2, hd6])
  rw [List.nil_append] at e1
  have h5 := drawn_lt ns at_ (many := 5) (by decide)
  obtain ⟨ρ2, e2, y4, y5, y6, rfl⟩ := forI (e := D.int) (t := tgName 5) (g := b_law_doors_2) (S := S) (fun dn ρ => ∃ x4 x5 x6, ρ = [some (.dat (.scr ns)), some (.dat (.int at_)), some (.dat (.int many)), some (.own ((dn.foldl (dStep2 ns at_ many) (found1 ns at_ many)).map pD)), x4, x5, x6])
    (iv 0 (drawnF ns at_ 5).toNat) [] [some (.dat (.scr ns)), some (.dat (.int at_)), some (.dat (.int many)), some (.own ((found1 ns at_ many).map pD)), x4, x5, x6] ⟨_, _, _, rfl⟩ (fun dn o r ρ hd ⟨x4, x5, x6, hx⟩ => by
    subst hx
    have len := foldl_len (s2_len ns at_ many) dn (found1 ns at_ many)
    have l1 := f1_len ns at_ many
    have dl : dn.length ≤ 5 := by
      have := congrArg List.length hd
      rw [List.nil_append, iv_len, List.length_append, List.length_cons] at this
      omega
    have lim : ((dn.foldl (dStep2 ns at_ many) (found1 ns at_ many)).map pD).length < LIM := limlt_small (by rw [List.length_map]; omega)
    refine ⟨_, [some (.dat (.scr ns)), some (.dat (.int at_)), some (.dat (.int many)), some (.own (((dn ++ [o]).foldl (dStep2 ns at_ many) (found1 ns at_ many)).map pD)), some (.dat (.int (drawnF ns (at_ + 13 + 2 * o) many))), some (.dat (.int o)), some (.dat (.int (drawnF ns (at_ + 12 + 2 * o) many)))], rfl, ?_, ⟨_, _, _, rfl⟩⟩
    have m2 := mul_ok S (i := 2) (j := o) (.inl (by decide))
    have da := drawn_ev ns hn (at_ + 12 + 2 * o) many (by omega) S
    have db := drawn_ev ns hn (at_ + 13 + 2 * o) many (by omega) S
    rw [List.foldl_append, List.foldl_cons, List.foldl_nil]
    generalize hacc : dn.foldl (dStep2 ns at_ many) (found1 ns at_ many) = acc at *
    unfold dStep2
    generalize drawnF ns (at_ + 12 + 2 * o) many = u at *
    generalize drawnF ns (at_ + 13 + 2 * o) many = v at *
    by_cases huv : u = v
    · simp [b_law_doors_2, m2, da, db, huv]
    · rw [List.length_map] at lim
      simp [b_law_doors_2, m2, da, db, huv, sAppend, lim, z2, pD, gMin, gMax, lo2, hi2])
  rw [List.nil_append] at e2
  have r1 := rng2 (i := 1) (j := many) (by decide) (by decide) (by omega) (by omega)
  have r2 := rng1 (j := drawnF ns at_ 5) (by omega) (by omega)
  rw [rng_iv] at r1 r2
  have d5 := drawn_ev ns hn at_ 5 (by decide) S
  have ss : gSS [.lst ((found2 ns at_ many).map pD)] S = some (.lst ((doorsF ns at_ many).map pD)) := by
    cases hf : found2 ns at_ many with
    | nil => simp [gSS, ints?, doorsF, hf, usort]
    | cons p l =>
      have e0 : ints? ((p :: l).map pD) = none := rfl
      have e1 := ipairs_map (p :: l)
      have e2 : (p :: l).length < 64 ∧ (p :: l).all bdP = true := by
        rw [← hf]
        have := f2_len ns at_ many
        exact ⟨by omega, List.all_eq_true.mpr fun p hp => door_bd h2 (f2_in ns at_ many h1 p hp)⟩
      simp only [gSS, e0, e1]
      rw [if_pos e2, ← hf]
      rfl
  unfold found2 at ss
  unfold found1 at ss e2
  generalize iv 1 (many - 1).toNat = L1 at *
  generalize iv 0 (drawnF ns at_ 5).toNat = L2 at *
  simp [m_law_doors, g_law_doors, z0, r1, e1, d5, r2, e2, sFreeze, ss, gTuple]
end BW
namespace BW
open PySem L2
def plD (p : Bool × Int) : D := .tup [.str (wS p.1), .int p.2]
def placesF (nd : Nat) (many : Int) : List (Bool × Int) := (iv 0 nd).map (fun i => (true, i)) ++ (iv 1 (many - 1).toNat).map (fun i => (false, i))
def rotF {α : Type} (l : List α) (t : Int) : List α := l.drop t.toNat ++ l.take t.toNat
def howF (ns : List Int) (k : Int) : How := if drawnF ns k 6 = 0 then .soon else if drawnF ns k 6 = 1 then .late else if drawnF ns k 6 = 2 then .after else if drawnF ns k 6 = 3 then .ever else if drawnF ns k 6 = 4 then .late else .soon
def eStep (ns : List Int) (at_ : Int) (acc : List Eye) (x : (Bool × Int) × Nat) : List Eye := if 0 < drawnF ns (at_ + 27 + 2 * (x.2 : Int)) 3 ∧ acc.length < 12 then acc ++ [⟨x.1.1, x.1.2, howF ns (at_ + 26 + 2 * (x.2 : Int))⟩] else acc
def eyesF (ns : List Int) (at_ : Int) (rot : List (Bool × Int)) : List Eye := rot.zipIdx.foldl (eStep ns at_) []
def modeF (ns : List Int) (here : Int) (n : Nat) : List Int := (iv 0 n).filter fun e => decide (0 < drawnF ns (here + e) 4)
def modesF (ns : List Int) (at_ : Int) (n : Nat) : List (List Int) := (iv 0 (1 + drawnF ns (at_ + 56) 3).toNat).map fun k => modeF ns (at_ + 57 + 13 * k) n
def manyF (ns : List Int) (at_ : Int) : Int := 2 + drawnF ns at_ 5
def plF (ns : List Int) (at_ : Int) : List (Bool × Int) := placesF (doorsF ns (at_ + 1) (manyF ns at_)).length (manyF ns at_)
def rtF (ns : List Int) (at_ : Int) : List (Bool × Int) := rotF (plF ns at_) (drawnF ns (at_ + 25) (plF ns at_).length)
def houseF (ns : List Int) (at_ : Int) : Hs :=
  ⟨manyF ns at_, doorsF ns (at_ + 1) (manyF ns at_), eyesF ns at_ (rtF ns at_), modesF ns at_ (eyesF ns at_ (rtF ns at_)).length⟩
theorem many_in (ns : List Int) (at_ : Int) : 2 ≤ manyF ns at_ ∧ manyF ns at_ ≤ 6 := by
  have := drawn_lt ns at_ (many := 5) (by decide)
  unfold manyF
  omega
theorem places_len (nd : Nat) (many : Int) : (placesF nd many).length = nd + (many - 1).toNat := by simp [placesF, iv_len]
theorem iv_nodup (lo : Int) (n : Nat) : (iv lo n).Nodup := List.pairwise_map.mpr (List.nodup_range.imp fun {a b} h => by omega)
theorem iv_lt (lo : Int) (n : Nat) : (iv lo n).Pairwise (· < ·) := List.pairwise_map.mpr (List.pairwise_lt_range.imp fun {a b} h => by omega)
theorem places_nodup (nd : Nat) (many : Int) : (placesF nd many).Nodup := by
  unfold placesF
  refine List.nodup_append.mpr ⟨List.pairwise_map.mpr ((iv_nodup _ _).imp fun {a b} h e => h (by simpa using e)), List.pairwise_map.mpr ((iv_nodup _ _).imp fun {a b} h e => h (by simpa using e)), fun a ha b hb e => ?_⟩
  obtain ⟨x, _, rfl⟩ := List.mem_map.mp ha
  obtain ⟨y, _, rfl⟩ := List.mem_map.mp hb
  cases e
theorem places_in {nd : Nat} {many : Int} {p : Bool × Int} (h : p ∈ placesF nd many) : if p.1 = true then 0 ≤ p.2 ∧ p.2 < nd else 1 ≤ p.2 ∧ p.2 < many := by
  rcases List.mem_append.mp h with h | h
  · obtain ⟨x, hx, rfl⟩ := List.mem_map.mp h
    have := iv_mem hx
    simp
    omega
  · obtain ⟨x, hx, rfl⟩ := List.mem_map.mp h
    have := iv_mem hx
    simp
    omega
theorem rot_perm {α : Type} (l : List α) (t : Int) : (rotF l t).Perm l := by
  unfold rotF
  exact List.perm_append_comm.trans (by rw [List.take_append_drop])
theorem eyes_len {ns : List Int} {at_ : Int} : ∀ (xs : List ((Bool × Int) × Nat)) (acc : List Eye), acc.length ≤ 12 → (xs.foldl (eStep ns at_) acc).length ≤ 12
  | [], acc, h => h
  | x :: xs, acc, h => by
    rw [List.foldl_cons]
    refine eyes_len xs _ ?_
    unfold eStep
    split
    · simp; omega
    · exact h
theorem eyes_sub {ns : List Int} {at_ : Int} : ∀ (xs : List ((Bool × Int) × Nat)) (acc : List Eye), ((xs.foldl (eStep ns at_) acc).map fun e => (e.dr, e.num)).Sublist ((acc.map fun e => (e.dr, e.num)) ++ xs.map (·.1))
  | [], acc => by simp
  | x :: xs, acc => by
    rw [List.foldl_cons]
    refine (eyes_sub xs _).trans ?_
    unfold eStep
    split
    · simp
    · simp only [List.map_cons]
      exact List.Sublist.append_left (List.sublist_cons_self _ _) _
theorem eyesF_sub (ns : List Int) (at_ : Int) (rot : List (Bool × Int)) : ((eyesF ns at_ rot).map fun e => (e.dr, e.num)).Sublist rot := by
  have := eyes_sub (ns := ns) (at_ := at_) rot.zipIdx []
  unfold eyesF
  simpa using this
theorem modeF_ok (ns : List Int) (here : Int) (n : Nat) : modeOk n (modeF ns here n) := by
  refine ⟨fun x hx => ?_, (iv_lt 0 n).filter _⟩
  have := iv_mem (List.mem_filter.mp hx).1
  omega
theorem houseF_ok (ns : List Int) (at_ : Int) : (houseF ns at_).Ok := by
  have m := many_in ns at_
  have sub := eyesF_sub ns at_ (rtF ns at_)
  have perm : (rtF ns at_).Perm (plF ns at_) := rot_perm _ _
  refine ⟨m, doorsF_in ns (at_ + 1) _ m.1, usort_ri _ _, ?_, fun e he => ?_, ?_, eyes_len _ _ (by simp), ?_, fun md hm => ?_⟩
  · have := doorsF_len ns (at_ + 1) (manyF ns at_) m.2
    show (doorsF ns (at_ + 1) (manyF ns at_)).length ≤ 10
    omega
  · have h1 : (e.dr, e.num) ∈ (eyesF ns at_ (rtF ns at_)).map fun e => (e.dr, e.num) := List.mem_map_of_mem (f := fun e : Eye => (e.dr, e.num)) he
    have h2 := perm.mem_iff.mp (sub.subset h1)
    exact places_in h2
  · exact (perm.nodup_iff.mpr (places_nodup _ _)).sublist sub
  · show 1 ≤ (modesF _ _ _).length ∧ (modesF _ _ _).length ≤ 3
    have := drawn_lt ns (at_ + 56) (many := 3) (by decide)
    unfold modesF
    rw [List.length_map, iv_len]
    omega
  · obtain ⟨k, _, rfl⟩ := List.mem_map.mp hm
    exact modeF_ok _ _ _
theorem how_at (ns : List Int) (k : Int) (S : Store) : gIx (.lst [.str "soon", .str "late", .str "after", .str "ever", .str "late", .str "soon"]) (.int (drawnF ns k 6)) S = some (.str (howF ns k).s) := by
  have h := drawn_lt ns k (many := 6) (by decide)
  rw [ix_lst _ _ h.1]
  unfold howF
  generalize drawnF ns k 6 = d at *
  have : d = 0 ∨ d = 1 ∨ d = 2 ∨ d = 3 ∨ d = 4 ∨ d = 5 := by omega
  rcases this with e | e | e | e | e | e <;> subst e <;> rfl
theorem eyes_ev (ns : List Int) (hn : ns.length ≤ 63) (at_ : Int) (rot : List (Bool × Int)) (S : Store) (hr : rot.length ≤ 1000) (a b c d x7 x8 x9 x10 x11 x12 x13 x14 : Option Slot) :
    ∃ y8 y9 y10, forL (tgTup 2 (tgCons (tgName 8) (tgCons (tgName 9) tgNil))) b_law_house_1 (rot.zipIdx.map fun p => .tup [.int (p.2 : Nat), plD p.1]) [some (.dat (.scr ns)), some (.dat (.int at_)), a, b, c, d, some (.own []), x7, x8, x9, x10, x11, x12, x13, x14] S
      = .next [some (.dat (.scr ns)), some (.dat (.int at_)), a, b, c, d, some (.own ((eyesF ns at_ rot).map eD)), x7, y8, y9, y10, x11, x12, x13, x14] S := by
  obtain ⟨ρ1, e1, y8, y9, y10, rfl⟩ := forI (e := fun p : (Bool × Int) × Nat => D.tup [.int (p.2 : Nat), plD p.1]) (t := tgTup 2 (tgCons (tgName 8) (tgCons (tgName 9) tgNil))) (g := b_law_house_1) (S := S)
    (fun dn ρ => ∃ y8 y9 y10, ρ = [some (.dat (.scr ns)), some (.dat (.int at_)), a, b, c, d, some (.own ((dn.foldl (eStep ns at_) []).map eD)), x7, y8, y9, y10, x11, x12, x13, x14]) rot.zipIdx [] _ ⟨_, _, _, rfl⟩ (fun dn x r ρ hd ⟨y8, y9, y10, hx⟩ => by
    subst hx
    have l12 := eyes_len (ns := ns) (at_ := at_) dn [] (by simp)
    obtain ⟨⟨w, num⟩, k⟩ := x
    refine ⟨_, [some (.dat (.scr ns)), some (.dat (.int at_)), a, b, c, d, some (.own (((dn ++ [((w, num), k)]).foldl (eStep ns at_) []).map eD)), x7, some (.dat (.int (k : Nat))), some (.dat (plD (w, num))), some (.dat (.str (howF ns (at_ + 26 + 2 * (k : Int))).s)), x11, x12, x13, x14], rfl, ?_, ⟨_, _, _, rfl⟩⟩
    rw [List.foldl_append, List.foldl_cons, List.foldl_nil]
    generalize dn.foldl (eStep ns at_) [] = acc at *
    have m2 := mul_ok S (i := 2) (j := (k : Int)) (.inl (by decide))
    have d6 := drawn_ev ns hn (at_ + 26 + 2 * (k : Int)) 6 (by decide) S
    have d3 := drawn_ev ns hn (at_ + 27 + 2 * (k : Int)) 3 (by decide) S
    have hw := how_at ns (at_ + 26 + 2 * (k : Int)) S
    unfold eStep
    generalize howF ns (at_ + 26 + 2 * (k : Int)) = hh at *
    have z6 : (6 : Nat) ≤ LIM := lim_small (by decide)
    have z1 : (1 : Nat) ≤ LIM := lim_small (by decide)
    have z3 : (2 : Nat) + 1 ≤ LIM := lim_small (by decide)
    have za : acc.length < LIM := limlt_small (by omega)
    have ga : gAdd (plD (w, num)) (.tup [.str hh.s]) S = some (eD ⟨w, num, hh⟩) := by
      simp only [plD, gAdd, List.length_cons, List.length_nil, eD]
      rw [if_pos z3]; rfl
    by_cases h3 : 0 < drawnF ns (at_ + 27 + 2 * (k : Int)) 3
    · by_cases h12 : acc.length < 12
      · have h12' : (acc.length : Int) < 12 := by omega
        simp [b_law_house_1, m2, d6, d3, z6, hw, gI2, h3, fLenOwn, gLt, h12, h12', sAppend, z1, ga, za]
      · have h12' : ¬ (acc.length : Int) < 12 := by omega
        simp [b_law_house_1, m2, d6, d3, z6, hw, gI2, h3, fLenOwn, gLt, h12, h12']
    · simp [b_law_house_1, m2, d6, d3, z6, hw, gI2, h3])
  exact ⟨_, _, _, by simpa [eyesF] using e1⟩
end BW
namespace BW
open PySem L2
theorem modes_ev (ns : List Int) (hn : ns.length ≤ 63) (at_ : Int) (es : List Eye) (S : Store) (he : es.length ≤ 12) (n : Nat) (h3 : n ≤ 3) (a b c d x8 x9 x10 x11 x12 x13 x14 : Option Slot) :
    ∃ y8 y11, forL (tgName 8) b_law_house_2 ((iv 0 n).map D.int) [some (.dat (.scr ns)), some (.dat (.int at_)), a, b, c, d, some (.dat (.lst (es.map eD))), some (.own []), x8, x9, x10, x11, x12, x13, x14] S
      = .next [some (.dat (.scr ns)), some (.dat (.int at_)), a, b, c, d, some (.dat (.lst (es.map eD))), some (.own (((iv 0 n).map fun k => modeF ns (at_ + 57 + 13 * k) es.length).map mD)), y8, x9, x10, y11, x12, x13, x14] S := by
  obtain ⟨ρ1, e1, y8, y11, rfl⟩ := forI (e := D.int) (t := tgName 8) (g := b_law_house_2) (S := S)
    (fun dn ρ => ∃ y8 y11, ρ = [some (.dat (.scr ns)), some (.dat (.int at_)), a, b, c, d, some (.dat (.lst (es.map eD))), some (.own ((dn.map fun k => modeF ns (at_ + 57 + 13 * k) es.length).map mD)), y8, x9, x10, y11, x12, x13, x14]) (iv 0 n) [] _ ⟨_, _, rfl⟩ (fun dn k r ρ hd ⟨y8, y11, hx⟩ => by
    subst hx
    refine ⟨_, [some (.dat (.scr ns)), some (.dat (.int at_)), a, b, c, d, some (.dat (.lst (es.map eD))), some (.own (((dn ++ [k]).map fun k => modeF ns (at_ + 57 + 13 * k) es.length).map mD)), some (.dat (.int k)), x9, x10, some (.dat (.int (at_ + 57 + 13 * k))), x12, x13, x14], rfl, ?_, ⟨_, _, rfl⟩⟩
    have dl : dn.length ≤ 3 := by
      have := congrArg List.length hd
      rw [List.nil_append, iv_len, List.length_append, List.length_cons] at this
      omega
    have m13 := mul_ok S (i := 13) (j := k) (.inl (by decide))
    have rg := rng1 (j := (es.length : Int)) (by omega) (by omega)
    rw [rng_iv, Int.toNat_natCast] at rg
    have c1 := compT (e := D.int) (t := tgName 14) (ft := fB (f2 gGt (fM 3 m_law_drawn (fCons (fV 0) (fCons (f2 gAdd (fV 11) (fV 14)) (fCons (fC (.int 4)) fNil)))) (fC (.int 0)))) (fe := fV 14) (ρ := [some (.dat (.scr ns)), some (.dat (.int at_)), a, b, c, d, some (.dat (.lst (es.map eD))), some (.own ((dn.map fun k => modeF ns (at_ + 57 + 13 * k) es.length).map mD)), some (.dat (.int k)), x9, x10, some (.dat (.int (at_ + 57 + 13 * k))), x12, x13, none]) (S := S)
      (fun e => decide (0 < drawnF ns (at_ + 57 + 13 * k + e) 4)) D.int (xs := iv 0 es.length) (by rw [iv_len]; omega)
      (fun x hx => ⟨_, rfl, by simp [drawn_ev ns hn _ 4 (by decide) S, gI2], fun _ => by simp⟩)
    have e2 : ((iv 0 es.length).filter fun e => decide (0 < drawnF ns (at_ + 57 + 13 * k + e) 4)) = modeF ns (at_ + 57 + 13 * k) es.length := rfl
    rw [e2] at c1
    have za : dn.length < LIM := limlt_small (by omega)
    generalize hml : (dn.map fun k => modeF ns (at_ + 57 + 13 * k) es.length).map mD = acc at *
    have zb : acc.length < LIM := by rw [← hml, List.length_map, List.length_map]; exact za
    have e3 : ((dn ++ [k]).map fun k => modeF ns (at_ + 57 + 13 * k) es.length).map mD = acc ++ [mD (modeF ns (at_ + 57 + 13 * k) es.length)] := by rw [← hml]; simp
    rw [e3]
    simp -implicitDefEqProofs [b_law_house_2, m13, rg, wipeE, c1, gTuple, sAppend, zb, mD])
  exact ⟨_, _, by simpa using e1⟩
end BW
namespace BW
open PySem L2
theorem house_ev (ns : List Int) (hn : ns.length ≤ 63) (at_ : Int) (S : Store) : m_law_house [.scr ns, .int at_] S = .ok (hD (houseF ns at_)) S := by
  have m := many_in ns at_
  have d5 := drawn_ev ns hn at_ 5 (by decide) S
  have dv := doors_ev ns hn (at_ + 1) (manyF ns at_) m.1 m.2 S
  have nd := doorsF_len ns (at_ + 1) (manyF ns at_) m.2
  generalize hdd : doorsF ns (at_ + 1) (manyF ns at_) = dd at *
  have em : 2 + drawnF ns at_ 5 = manyF ns at_ := rfl
  have r1 := rng1 (j := (dd.length : Int)) (by omega) (by omega)
  have r2 := rng2 (i := 1) (j := manyF ns at_) (by decide) (by decide) (by omega) (by omega)
  rw [rng_iv] at r1 r2
  rw [Int.toNat_natCast] at r1
  have z2 : (2 : Nat) ≤ LIM := lim_small (by decide)
  have z4 : (4 : Nat) ≤ LIM := lim_small (by decide)
  have z0 : (0 : Nat) ≤ LIM := lim_small (by decide)
  have c1 := fun x4 => compM (e := D.int) (t := tgName 12) (fe := fTup (fCons (fC (.str "door")) (fCons (fV 12) fNil))) (ρ := [some (.dat (.scr ns)), some (.dat (.int at_)), some (.dat (.int (manyF ns at_))), some (.dat (.tup (dd.map pD))), x4, none, none, none, none, none, none, none, none, none, none]) (S := S) (fun i => plD (true, i)) (xs := iv 0 dd.length) (by rw [iv_len]; omega)
    (fun x _ => ⟨_, rfl, by simp [z2, plD, wS]⟩)
  have c2 := fun x4 => compM (e := D.int) (t := tgName 13) (fe := fTup (fCons (fC (.str "room")) (fCons (fV 13) fNil))) (ρ := [some (.dat (.scr ns)), some (.dat (.int at_)), some (.dat (.int (manyF ns at_))), some (.dat (.tup (dd.map pD))), x4, none, none, none, none, none, none, none, none, none, none]) (S := S) (fun i => plD (false, i)) (xs := iv 1 (manyF ns at_ - 1).toNat) (by rw [iv_len]; omega)
    (fun x _ => ⟨_, rfl, by simp [z2, plD, wS]⟩)
  have pl : (iv 0 dd.length).map (fun i => plD (true, i)) ++ (iv 1 (manyF ns at_ - 1).toNat).map (fun i => plD (false, i)) = (plF ns at_).map plD := by
    unfold plF placesF
    rw [hdd, List.map_append, List.map_map, List.map_map]
    rfl
  have lp : (plF ns at_).length = dd.length + (manyF ns at_ - 1).toNat := by unfold plF; rw [hdd, places_len]
  have ga : gAdd (.lst ((iv 0 dd.length).map (fun i => plD (true, i)))) (.lst ((iv 1 (manyF ns at_ - 1).toNat).map (fun i => plD (false, i)))) S = some (.lst ((plF ns at_).map plD)) := by
    show (if _ then _ else _) = _
    rw [if_pos (lim_small (by simp [iv_len]; omega)), pl]
  have dt := drawn_ev ns hn (at_ + 25) ((plF ns at_).length : Int) (by omega) S
  have tl := drawn_lt ns (at_ + 25) (many := ((plF ns at_).length : Int)) (by omega)
  have gb : gAdd (.lst (((plF ns at_).map plD).drop (drawnF ns (at_ + 25) (plF ns at_).length).toNat)) (.lst (((plF ns at_).map plD).take (drawnF ns (at_ + 25) (plF ns at_).length).toNat)) S = some (.lst ((rtF ns at_).map plD)) := by
    show (if _ then _ else _) = _
    rw [if_pos (lim_small (by simp; omega))]
    unfold rtF rotF
    simp
  have lr : (rtF ns at_).length ≤ 1000 := by
    have := (rot_perm (plF ns at_) (drawnF ns (at_ + 25) (plF ns at_).length)).length_eq
    unfold rtF
    omega
  obtain ⟨y8, y9, y10, e1⟩ := eyes_ev ns hn at_ (rtF ns at_) S lr (some (.dat (.int (manyF ns at_)))) (some (.dat (.tup (dd.map pD)))) (some (.dat (.lst ((plF ns at_).map plD)))) (some (.dat (.int (drawnF ns (at_ + 25) (plF ns at_).length)))) none none none none none none none none
  have h3 := drawn_lt ns (at_ + 56) (many := 3) (by decide)
  have d3 := drawn_ev ns hn (at_ + 56) 3 (by decide) S
  have r3 := rng1 (j := 1 + drawnF ns (at_ + 56) 3) (by omega) (by omega)
  rw [rng_iv] at r3
  obtain ⟨y8', y11, e2⟩ := modes_ev ns hn at_ (eyesF ns at_ (rtF ns at_)) S (eyes_len _ _ (by simp)) (1 + drawnF ns (at_ + 56) 3).toNat (by omega) (some (.dat (.int (manyF ns at_)))) (some (.dat (.tup (dd.map pD)))) (some (.dat (.lst ((plF ns at_).map plD)))) (some (.dat (.int (drawnF ns (at_ + 25) (plF ns at_).length)))) y8 y9 y10 none none none none
  have en : kEnum [.lst ((rtF ns at_).map plD)] = some ((rtF ns at_).zipIdx.map fun p => .tup [.int (p.2 : Nat), plD p.1]) := by
    show some (enumD _) = _
    rw [enum_map]
  have eh : hD (houseF ns at_) = .tup [.int (manyF ns at_), .tup (dd.map pD), .tup ((eyesF ns at_ (rtF ns at_)).map eD), .tup (((iv 0 (1 + drawnF ns (at_ + 56) 3).toNat).map fun k => modeF ns (at_ + 57 + 13 * k) (eyesF ns at_ (rtF ns at_)).length).map mD)] := by
    unfold hD houseF modesF
    simp only [hdd]
  rw [eh]
  generalize ((iv 0 (1 + drawnF ns (at_ + 56) 3).toNat).map fun k => modeF ns (at_ + 57 + 13 * k) (eyesF ns at_ (rtF ns at_)).length).map mD = mm at *
  generalize (eyesF ns at_ (rtF ns at_)).map eD = ee at *
  generalize iv 0 (1 + drawnF ns (at_ + 56) 3).toNat = L3 at *
  generalize ((rtF ns at_).zipIdx.map fun p => D.tup [.int (p.2 : Nat), plD p.1]) = L4 at *
  generalize iv 1 (manyF ns at_ - 1).toNat = L1 at *
  generalize hL2 : iv 0 dd.length = L2 at *
  have cf := cut_fromI ((plF ns at_).map plD) tl.1
  have ct := cut_toI ((plF ns at_).map plD) tl.1
  have lpl : ((plF ns at_).map plD).length = (plF ns at_).length := List.length_map _
  generalize (plF ns at_).map plD = PL at *
  generalize (rtF ns at_).map plD = RT at *
  generalize drawnF ns (at_ + 25) (plF ns at_).length = tt at *
  simp -implicitDefEqProofs [m_law_house, g_law_house, d5, em, dv, r1, wipeE, c1, r2, c2, ga, lpl, dt, z0, gCut, cf, ct, gb, en, e1, sFreeze, d3, r3, e2, gTuple, z4]
end BW
namespace BW
open PySem L2
section
variable (S : Store)
@[simp] theorem ix_h0 (h : Hs) : gIx (hD h) (.int 0) S = some (.int h.many) := rfl
@[simp] theorem ix_h1 (h : Hs) : gIx (hD h) (.int 1) S = some (.tup (h.doors.map pD)) := rfl
@[simp] theorem ix_h2 (h : Hs) : gIx (hD h) (.int 2) S = some (.tup (h.eyes.map eD)) := rfl
@[simp] theorem ix_h3 (h : Hs) : gIx (hD h) (.int 3) S = some (.tup (h.modes.map mD)) := rfl
@[simp] theorem ix_e0 (e : Eye) : gIx (eD e) (.int 0) S = some (.str (wS e.dr)) := rfl
@[simp] theorem ix_e1 (e : Eye) : gIx (eD e) (.int 1) S = some (.int e.num) := rfl
@[simp] theorem ix_e2 (e : Eye) : gIx (eD e) (.int 2) S = some (.str e.how.s) := rfl
@[simp] theorem eq_how (neg : Bool) (a b : How) : gEq neg (.str a.s) (.str b.s) S = some (.bl (xor neg (decide (a = b)))) := by rw [eq_str S neg _ _ (by simp) (by simp), how_beq]
theorem eq_ever (neg : Bool) (a : How) : gEq neg (.str a.s) (.str "ever") S = some (.bl (xor neg (decide (a = .ever)))) := eq_how S neg a .ever
theorem eq_soon (neg : Bool) (a : How) : gEq neg (.str a.s) (.str "soon") S = some (.bl (xor neg (decide (a = .soon)))) := eq_how S neg a .soon
theorem eq_late (neg : Bool) (a : How) : gEq neg (.str a.s) (.str "late") S = some (.bl (xor neg (decide (a = .late)))) := eq_how S neg a .late
theorem eq_door (neg : Bool) (a : Bool) : gEq neg (.str (wS a)) (.str "door") S = some (.bl (xor neg a)) := by rw [show (Str.ofString "door") = wS true from rfl, eq_str S neg _ _ (by simp) (by simp), wS_beq]; simp
theorem need_house_ok {h : Hs} (g : h.Ok) : m_need_house [hD h] S = .ok .non S := by
  simp -implicitDefEqProofs [m_need_house, g_need_house, house_ok S h g]
theorem need_mode_ok {h : Hs} {i : Int} (h1 : 0 ≤ i) (h2 : i < h.modes.length) : m_need_mode [hD h, .int i] S = .ok .non S := by
  have n := num_ev S i 0 ((h.modes.length : Int) - 1)
  rw [inB_yes (by omega)] at n
  simp -implicitDefEqProofs [m_need_mode, g_need_mode, n]
theorem need_mode_no {h : Hs} {i : Int} (hi : ¬ (0 ≤ i ∧ i < h.modes.length)) : m_need_mode [hD h, .int i] S = .err "NoMode" S := by
  have n := num_ev S i 0 ((h.modes.length : Int) - 1)
  rw [inB_no (by omega)] at n
  simp -implicitDefEqProofs [m_need_mode, g_need_mode, n]
end
def eversF (h : Hs) : List Int := (h.eyes.zipIdx.filter fun p => decide (p.1.how = .ever)).map fun p => (p.2 : Int)
def modeAt (h : Hs) (i : Int) : List Int := (h.modes[i.toNat]?).getD []
theorem evers_len (h : Hs) : (eversF h).length ≤ h.eyes.length := by
  unfold eversF
  rw [List.length_map]
  exact Nat.le_trans (List.length_filter_le _ _) (by simp)
theorem evers_ev (S : Store) (h : Hs) (hl : h.eyes.length ≤ 1000) : m_evers [hD h] S = .ok (.lst ((eversF h).map .int)) S := by
  have en : kEnum [.tup (h.eyes.map eD)] = some (h.eyes.zipIdx.map fun p => .tup [.int (p.2 : Nat), eD p.1]) := by
    show some (enumD _) = _
    rw [enum_map]
  have c := compT (e := fun p : Eye × Nat => D.tup [.int (p.2 : Nat), eD p.1]) (t := tgTup 2 (tgCons (tgName 1) (tgCons (tgName 2) tgNil))) (ft := fB (f2 (gEq false) (f2 gIx (fV 2) (fC (.int 2))) (fC (.str "ever")))) (fe := fV 1) (ρ := [some (.dat (hD h)), none, none]) (S := S)
    (fun p => decide (p.1.how = .ever)) (fun p => .int (p.2 : Nat)) (xs := h.eyes.zipIdx) (by simp; omega) (fun x _ => ⟨_, rfl, by simp -implicitDefEqProofs [eq_ever], fun _ => by simp -implicitDefEqProofs⟩)
  have e : ((h.eyes.zipIdx.filter fun p => decide (p.1.how = .ever)).map fun p => D.int (p.2 : Nat)) = (eversF h).map .int := by unfold eversF; rw [List.map_map]; rfl
  rw [e] at c
  simp -implicitDefEqProofs [m_evers, g_evers, en, wipeE, c]
theorem mode_mem {h : Hs} {i : Int} (h1 : 0 ≤ i) (h2 : i < h.modes.length) : modeAt h i ∈ h.modes := by
  unfold modeAt
  rw [List.getElem?_eq_getElem (by omega : i.toNat < h.modes.length)]
  exact List.getElem_mem _
theorem ix_mode (S : Store) {h : Hs} {i : Int} (h1 : 0 ≤ i) (h2 : i < h.modes.length) : gIx (.tup (h.modes.map mD)) (.int i) S = some (mD (modeAt h i)) := by
  rw [ix_tup S _ h1, List.getElem?_map]
  unfold modeAt
  rw [List.getElem?_eq_getElem (by omega : i.toNat < h.modes.length)]
  rfl
theorem zipIdx_iff {α : Type} {l : List α} {x : α} {i : Nat} : (x, i) ∈ l.zipIdx ↔ l[i]? = some x := by
  rw [List.mem_zipIdx_iff_getElem?]
theorem zip_ri {α : Type} (l : List α) (p : α × Nat → Bool) : ((l.zipIdx.filter p).map fun q => (q.2 : Int)).Pairwise (· < ·) := by
  refine List.pairwise_map.mpr (List.Pairwise.filter _ ?_)
  have : (l.zipIdx.map (·.2)).Pairwise (· < ·) := by
    rw [List.zipIdx_map_snd, ← List.range_eq_range']
    exact List.pairwise_lt_range
  exact (List.pairwise_map.mp this).imp fun {a b} h => by omega
theorem enum_eyes (h : Hs) : kEnum [.tup (h.eyes.map eD)] = some (h.eyes.zipIdx.map fun p => .tup [.int (p.2 : Nat), eD p.1]) := by
  show some (enumD _) = _
  rw [enum_map]
end BW
namespace BW
open PySem L2
inductive Wo where
  | off | leaving | set | entering | ringing
  deriving DecidableEq
def Wo.s : Wo → Str
  | .off => "off"
  | .leaving => "leaving"
  | .set => "set"
  | .entering => "entering"
  | .ringing => "ringing"
@[simp] theorem wo_ok (w : Wo) : PyData.strOk w.s = true := by cases w <;> exact ofS_ok _
@[simp] theorem wo_beq (a b : Wo) : (a.s == b.s) = decide (a = b) := by cases a <;> cases b <;> simp [Wo.s]
def oD : Option Int → D
  | none => .non
  | some i => .int i
abbrev Ring := Int × Option Int × Int
def rgD (r : Ring) : D := .tup [.int r.1, oD r.2.1, .int r.2.2]
structure Sd where
  w : Wo
  fin : Option Int
  mode : Option Int
  wo : List Int
  wide : List Int
  last : Int
  rings : List Ring
  cause : Option Int
  rows : List D
def sF (s : Sd) : List (Str × D) := [("word", .str s.w.s), ("end", oD s.fin), ("mode", oD s.mode), ("without", mD s.wo), ("wide", mD s.wide), ("last", .int s.last), ("rings", .tup (s.rings.map rgD)), ("cause", oD s.cause), ("rows", .tup s.rows)]
def sC (s : Sd) : Cell := .ins "Stand" (sF s)
/-- what a panel is made of -/
structure Pm where
  h : Hs
  lv : Int
  en : Int
  rg : Int
structure Pc where
  pm : Pm
  here : Nat
  gone : List (Str × Nat)
  coming : List (Str × Nat)
def gD (p : Str × Nat) : D := .tup [.str p.1, .ref p.2]
def pF (p : Pc) : List (Str × D) := [("house", hD p.pm.h), ("leaving", .int p.pm.lv), ("entering", .int p.pm.en), ("ringing", .int p.pm.rg), ("here", .ref p.here), ("gone", .lst (p.gone.map gD)), ("coming", .lst (p.coming.map gD))]
def pC (p : Pc) : Cell := .ins "Panel" (pF p)
section
variable {S : Store} {i : Nat}
theorem at_s {s : Sd} (h : S[i]? = some (sC s)) : insAt "Stand" (.ref i) S = some (i, sF s) := by simp [insAt, h, sC]
theorem at_p {p : Pc} (h : S[i]? = some (pC p)) : insAt "Panel" (.ref i) S = some (i, pF p) := by simp [insAt, h, pC]
end
section
variable (s : Sd) (d : D)
@[simp] theorem l_word : (sF s).lookup ("word" : Str) = some (.str s.w.s) := by simp [sF, List.lookup]
@[simp] theorem l_end : (sF s).lookup ("end" : Str) = some (oD s.fin) := by simp [sF, List.lookup]
@[simp] theorem l_mode : (sF s).lookup ("mode" : Str) = some (oD s.mode) := by simp [sF, List.lookup]
@[simp] theorem l_without : (sF s).lookup ("without" : Str) = some (mD s.wo) := by simp [sF, List.lookup]
@[simp] theorem l_wide : (sF s).lookup ("wide" : Str) = some (mD s.wide) := by simp [sF, List.lookup]
@[simp] theorem l_last : (sF s).lookup ("last" : Str) = some (.int s.last) := by simp [sF, List.lookup]
@[simp] theorem l_rings : (sF s).lookup ("rings" : Str) = some (.tup (s.rings.map rgD)) := by simp [sF, List.lookup]
@[simp] theorem l_cause : (sF s).lookup ("cause" : Str) = some (oD s.cause) := by simp [sF, List.lookup]
@[simp] theorem l_rows : (sF s).lookup ("rows" : Str) = some (.tup s.rows) := by simp [sF, List.lookup]
@[simp] theorem l_copy : (sF s).lookup ("copy" : Str) = none := by simp [sF, List.lookup]
@[simp] theorem sF_len : (sF s).length = 9 := rfl
theorem p_word (w : Wo) : putFD "word" (.str w.s) (sF s) = sF { s with w := w } := by simp [sF, putFD]
theorem p_end (x : Option Int) : putFD "end" (oD x) (sF s) = sF { s with fin := x } := by simp [sF, putFD]
theorem p_mode (x : Option Int) : putFD "mode" (oD x) (sF s) = sF { s with mode := x } := by simp [sF, putFD]
theorem p_without (x : List Int) : putFD "without" (mD x) (sF s) = sF { s with wo := x } := by simp [sF, putFD]
theorem p_wide (x : List Int) : putFD "wide" (mD x) (sF s) = sF { s with wide := x } := by simp [sF, putFD]
theorem p_last (x : Int) : putFD "last" (.int x) (sF s) = sF { s with last := x } := by simp [sF, putFD]
theorem p_rings (x : List Ring) : putFD "rings" (.tup (x.map rgD)) (sF s) = sF { s with rings := x } := by simp [sF, putFD]
theorem p_cause (x : Option Int) : putFD "cause" (oD x) (sF s) = sF { s with cause := x } := by simp [sF, putFD]
theorem p_rows (x : List D) : putFD "rows" (.tup x) (sF s) = sF { s with rows := x } := by simp [sF, putFD]
end
section
variable (p : Pc)
@[simp] theorem l_house : (pF p).lookup ("house" : Str) = some (hD p.pm.h) := by simp [pF, List.lookup]
@[simp] theorem l_leaving : (pF p).lookup ("leaving" : Str) = some (.int p.pm.lv) := by simp [pF, List.lookup]
@[simp] theorem l_entering : (pF p).lookup ("entering" : Str) = some (.int p.pm.en) := by simp [pF, List.lookup]
@[simp] theorem l_ringing : (pF p).lookup ("ringing" : Str) = some (.int p.pm.rg) := by simp [pF, List.lookup]
@[simp] theorem l_here : (pF p).lookup ("here" : Str) = some (.ref p.here) := by simp [pF, List.lookup]
@[simp] theorem l_gone : (pF p).lookup ("gone" : Str) = some (.lst (p.gone.map gD)) := by simp [pF, List.lookup]
@[simp] theorem l_coming : (pF p).lookup ("coming" : Str) = some (.lst (p.coming.map gD)) := by simp [pF, List.lookup]
@[simp] theorem pF_len : (pF p).length = 7 := rfl
theorem p_here (x : Nat) : putFD "here" (.ref x) (pF p) = pF { p with here := x } := by simp [pF, putFD]
theorem p_gone (x : List (Str × Nat)) : putFD "gone" (.lst (x.map gD)) (pF p) = pF { p with gone := x } := by simp [pF, putFD]
theorem p_coming (x : List (Str × Nat)) : putFD "coming" (.lst (x.map gD)) (pF p) = pF { p with coming := x } := by simp [pF, putFD]
/-- no method's name is a field's -/
theorem no_meth {m : Str} (h : (["house", "leaving", "entering", "ringing", "here", "gone", "coming"] : List Str).all (fun x => !(m == x)) = true) : (pF p).lookup m = none := by
  simp only [List.all_cons, List.all_nil, Bool.and_true, Bool.and_eq_true, Bool.not_eq_true'] at h
  obtain ⟨h1, h2, h3, h4, h5, h6, h7⟩ := h
  simp [pF, List.lookup, h1, h2, h3, h4, h5, h6, h7]
end
end BW
namespace BW
open PySem L2
section
variable {S : Store} {i j : Nat}
theorem lt_of_at {c : Cell} (h : S[i]? = some c) : i < S.length := (List.getElem?_eq_some_iff.mp h).1
theorem at_set {cl : Str} {fs : List (Str × D)} (h : i < S.length) : insAt cl (.ref i) (S.set i (.ins cl fs)) = some (i, fs) := by simp [insAt, h]
theorem at_set_ne {cl : Str} {c : Cell} (h : i ≠ j) : insAt cl (.ref j) (S.set i c) = insAt cl (.ref j) S := by simp [insAt, List.getElem?_set_ne h]
end
section
variable (s : Sd)
theorem p_off : putFD "word" (.str "off") (sF s) = sF { s with w := .off } := p_word s .off
theorem p_leaving : putFD "word" (.str "leaving") (sF s) = sF { s with w := .leaving } := p_word s .leaving
theorem p_set : putFD "word" (.str "set") (sF s) = sF { s with w := .set } := p_word s .set
theorem p_entering : putFD "word" (.str "entering") (sF s) = sF { s with w := .entering } := p_word s .entering
theorem p_ringing : putFD "word" (.str "ringing") (sF s) = sF { s with w := .ringing } := p_word s .ringing
theorem p_endN : putFD "end" .non (sF s) = sF { s with fin := none } := p_end s none
theorem p_endI (x : Int) : putFD "end" (.int x) (sF s) = sF { s with fin := some x } := p_end s (some x)
theorem p_modeN : putFD "mode" .non (sF s) = sF { s with mode := none } := p_mode s none
theorem p_modeI (x : Int) : putFD "mode" (.int x) (sF s) = sF { s with mode := some x } := p_mode s (some x)
theorem p_causeI (x : Int) : putFD "cause" (.int x) (sF s) = sF { s with cause := some x } := p_cause s (some x)
theorem p_withoutN : putFD "without" (.tup []) (sF s) = sF { s with wo := [] } := p_without s []
end
section
variable (S : Store) (neg : Bool) (a : Wo)
theorem eq_wo (b : Wo) : gEq neg (.str a.s) (.str b.s) S = some (.bl (xor neg (decide (a = b)))) := by rw [eq_str S neg _ _ (by simp) (by simp), wo_beq]
theorem eq_off : gEq neg (.str a.s) (.str "off") S = some (.bl (xor neg (decide (a = .off)))) := eq_wo S neg a .off
theorem eq_set : gEq neg (.str a.s) (.str "set") S = some (.bl (xor neg (decide (a = .set)))) := eq_wo S neg a .set
theorem eq_entering : gEq neg (.str a.s) (.str "entering") S = some (.bl (xor neg (decide (a = .entering)))) := eq_wo S neg a .entering
theorem eq_ringing : gEq neg (.str a.s) (.str "ringing") S = some (.bl (xor neg (decide (a = .ringing)))) := eq_wo S neg a .ringing
end
def ringF (pm : Pm) (eye m : Int) (s : Sd) : Sd := if s.w = .ringing then { s with fin := some (m + pm.rg) } else { s with rings := s.rings ++ [(m, none, eye)], w := .ringing, fin := some (m + pm.rg) }
def hushL (m : Int) (l : List Ring) : List Ring := match l.getLast? with
  | none => l
  | some r => l.dropLast ++ [(r.1, some m, r.2.2)]
def hushF (m : Int) (s : Sd) : Sd := { s with rings := hushL m s.rings }
section
variable {S : Store} {p i : Nat} {P : Pc} {s : Sd}
theorem ne_of_at (hp : S[p]? = some (pC P)) (hs : S[i]? = some (sC s)) : i ≠ p := by
  intro e
  rw [e, hp] at hs
  simp [pC, sC] at hs
theorem set_same (hs : S[i]? = some (sC s)) : S.set i (sC s) = S := by
  refine List.ext_getElem? fun j => ?_
  by_cases e : i = j
  · subst e; rw [List.getElem?_set_self (lt_of_at hs), hs]
  · rw [List.getElem?_set_ne e]
theorem ring_ev (hp : S[p]? = some (pC P)) (hs : S[i]? = some (sC s)) (hl : s.rings.length ≤ 900) (eye m : Int) : m_Panel_ring [.ref p, .ref i, .int eye, .int m] S = .ok .non (S.set i (sC (ringF P.pm eye m s))) := by
  have ne := ne_of_at hp hs
  have lt := lt_of_at hs
  have ap := at_p hp
  have as := at_s hs
  by_cases h : s.w = .ringing
  · simp -implicitDefEqProofs [m_Panel_ring, g_Panel_ring, as, ap, eq_ringing, h, ringF, p_endI, sC]
  · have ga : gAdd (.tup (s.rings.map rgD)) (.tup [.tup [.int m, .non, .int eye]]) S = some (.tup ((s.rings ++ [(m, none, eye)]).map rgD)) := by
      show (if _ then _ else _) = _
      rw [if_pos (lim_small (by simp; omega)), List.map_append]
      rfl
    have pr := p_rings s (s.rings ++ [(m, none, eye)])
    unfold ringF
    rw [if_neg h]
    generalize s.rings ++ [(m, none, eye)] = L at *
    simp -implicitDefEqProofs [m_Panel_ring, g_Panel_ring, as, ap, eq_ringing, h, lim_small, ga, pr, at_set lt, at_set_ne ne, p_ringing, p_endI, sC]
theorem hush_ev (hp : S[p]? = some (pC P)) (hs : S[i]? = some (sC s)) (hl : s.rings.length ≤ 900) (hn : s.rings ≠ []) (m : Int) : m_Panel_hush [.ref p, .ref i, .int m] S = .ok .non (S.set i (sC (hushF m s))) := by
  have as := at_s hs
  obtain ⟨l, r, e⟩ : ∃ l r, s.rings = l ++ [r] := ⟨s.rings.dropLast, s.rings.getLast hn, (List.dropLast_concat_getLast hn).symm⟩
  have hh : hushL m s.rings = l ++ [(r.1, some m, r.2.2)] := by simp [hushL, e]
  have ix : gIx (.tup (s.rings.map rgD)) (.int (-1)) S = some (rgD r) := by
    rw [e]
    show atI _ _ = _
    unfold atI ixN
    rw [if_neg (by decide), if_pos (by simp; omega)]
    simp
    rw [show ((-1 : Int) + ((l.length : Int) + 1)).toNat = l.length by omega]
    simp
  have ct : cutD (s.rings.map rgD) none (some (-1)) = l.map rgD := by
    rw [e]
    unfold cutD HT.sIx
    simp
    rw [show ((-1 : Int) + ((l.length : Int) + 1)).toNat = l.length by omega]
    simp
  have ga : gAdd (.tup (l.map rgD)) (.tup [.tup [.int r.1, .int m, .int r.2.2]]) S = some (.tup ((hushL m s.rings).map rgD)) := by
    rw [hh]
    show (if _ then _ else _) = _
    rw [if_pos (lim_small (by rw [e] at hl; simp at hl ⊢; omega)), List.map_append]
    rfl
  have pr := p_rings s (hushL m s.rings)
  have er : rgD r = .tup [.int r.1, oD r.2.1, .int r.2.2] := rfl
  rw [er] at ix
  unfold hushF
  generalize hushL m s.rings = L at *
  generalize hA : s.rings.map rgD = A at *
  generalize l.map rgD = B at *
  have lr := l_rings s
  rw [hA] at lr
  simp -implicitDefEqProofs [m_Panel_hush, g_Panel_hush, as, lr, ix, gCut, ct, lim_small, ga, pr, sC]
end
end BW
namespace BW
open PySem L2
theorem forD {α : Type} {e : α → D} {t : Tgt} {g : Stm} (I : List α → Env → Store → Prop) : ∀ (xs done : List α) (ρ : Env) (S : Store), I done ρ S →
    (∀ d x r ρ S, done ++ xs = d ++ x :: r → I d ρ S → ∃ ρ1 ρ2 S2, t (e x) ρ = some ρ1 ∧ g ρ1 S = .next ρ2 S2 ∧ I (d ++ [x]) ρ2 S2) → ∃ ρ' S', forL t g (xs.map e) ρ S = .next ρ' S' ∧ I (done ++ xs) ρ' S'
  | [], done, ρ, S, h, _ => ⟨ρ, S, rfl, by simpa using h⟩
  | x :: xs, done, ρ, S, h, hs => by
    obtain ⟨ρ1, ρ2, S2, e1, e2, h2⟩ := hs done x xs ρ S rfl h
    obtain ⟨ρ', S', e3, h3⟩ := forD I xs (done ++ [x]) ρ2 S2 h2 fun d y r ρ S hd => hs d y r ρ S (by rw [← hd]; simp)
    exact ⟨ρ', S', by rw [List.map_cons]; simp only [forL, e1, e2, e3], by simpa using h3⟩
theorem in_ints (S : Store) (neg : Bool) (x : Int) (l : List Int) : gIn neg (.int x) (mD l) S = some (.bl (xor neg (decide (x ∈ l)))) := by
  have : (l.map D.int).any (fun z => deq z (.int x)) = decide (x ∈ l) := by
    rw [Bool.eq_iff_iff, List.any_eq_true, decide_eq_true_eq]
    constructor
    · rintro ⟨d, hd, e⟩
      obtain ⟨y, hy, rfl⟩ := List.mem_map.mp hd
      simp at e
      exact e ▸ hy
    · exact fun h => ⟨_, List.mem_map_of_mem h, by simp⟩
  simp only [mD, gIn, ok_int, ok_tupC, ok_all (e := D.int) (fun i => ok_int _ i), Bool.and_self, if_true, this]
theorem inX_ints (S : Store) (neg : Bool) (x : Int) (l : List Int) : gInX neg (.int x) (mD l) S = some (.bl (xor neg (decide (x ∈ l)))) := in_ints S neg x l
theorem inX_lst (S : Store) (neg : Bool) (x : Int) (l : List Int) : gIn neg (.int x) (.lst (l.map .int)) S = some (.bl (xor neg (decide (x ∈ l)))) := by
  have := in_ints S neg x l
  unfold mD at this
  exact this
def keepB (h : Hs) (mode : Option Int) (wo : List Int) (i : Int) : Bool := match mode with
  | none => false
  | some m => decide (i ∈ modeAt h m) && !decide (i ∈ wo)
def byF (h : Hs) (mode : Option Int) (wo : List Int) : List Int := (h.eyes.zipIdx.filter fun p => decide (p.1.how = .ever) || keepB h mode wo (p.2 : Int)).map fun p => (p.2 : Int)
def eyeAt (h : Hs) (i : Int) : Eye := (h.eyes[i.toNat]?).getD ⟨true, 0, .soon⟩
def modeIn (h : Hs) (mode : Option Int) : Prop := ∀ m, mode = some m → 0 ≤ m ∧ m < h.modes.length
theorem ix_eye (S : Store) {h : Hs} {i : Int} (h1 : 0 ≤ i) (h2 : i < h.eyes.length) : gIx (.tup (h.eyes.map eD)) (.int i) S = some (eD (eyeAt h i)) := by
  rw [ix_tup S _ h1, List.getElem?_map]
  unfold eyeAt
  rw [List.getElem?_eq_getElem (by omega : i.toNat < h.eyes.length)]
  rfl
theorem eye_get {h : Hs} {i : Int} (h1 : 0 ≤ i) (h2 : i < h.eyes.length) : h.eyes[i.toNat]? = some (eyeAt h i) := by
  unfold eyeAt
  rw [List.getElem?_eq_getElem (by omega : i.toNat < h.eyes.length)]
  rfl
theorem mem_by {h : Hs} {mode : Option Int} {wo : List Int} {i : Int} : i ∈ byF h mode wo ↔ 0 ≤ i ∧ i < h.eyes.length ∧ ((eyeAt h i).how = .ever ∨ keepB h mode wo i = true) := by
  unfold byF
  constructor
  · intro hx
    obtain ⟨q, hq, rfl⟩ := List.mem_map.mp hx
    obtain ⟨q1, q2⟩ := List.mem_filter.mp hq
    obtain ⟨e, k⟩ := q
    have g := zipIdx_iff.mp q1
    have lt := (List.getElem?_eq_some_iff.mp g).1
    simp only [Bool.or_eq_true, decide_eq_true_eq] at q2
    have : eyeAt h (k : Int) = e := by unfold eyeAt; rw [Int.toNat_natCast, g]; rfl
    refine ⟨by omega, by simp; omega, ?_⟩
    rw [this]
    exact q2
  · rintro ⟨h1, h2, h3⟩
    have ek : ((i.toNat : Nat) : Int) = i := by omega
    refine List.mem_map.mpr ⟨(eyeAt h i, i.toNat), List.mem_filter.mpr ⟨zipIdx_iff.mpr (eye_get h1 h2), ?_⟩, ek⟩
    simp only [Bool.or_eq_true, decide_eq_true_eq, ek]
    exact h3
theorem by_ri (h : Hs) (mode : Option Int) (wo : List Int) : (byF h mode wo).Pairwise (· < ·) := zip_ri _ _
theorem mem_evers {h : Hs} {i : Int} : i ∈ eversF h ↔ 0 ≤ i ∧ i < h.eyes.length ∧ (eyeAt h i).how = .ever := by
  have := mem_by (h := h) (mode := none) (wo := []) (i := i)
  unfold byF keepB at this
  simp only [Bool.or_false, Bool.false_eq_true, or_false] at this
  exact this
theorem by_len (h : Hs) (mode : Option Int) (wo : List Int) : (byF h mode wo).length ≤ h.eyes.length := by
  unfold byF
  rw [List.length_map]
  exact Nat.le_trans (List.length_filter_le _ _) (by simp)
def keptL (h : Hs) (wo : List Int) : Option Int → List Int
  | none => []
  | some m => (modeAt h m).filter fun x => !decide (x ∈ wo)
theorem by_sorted {h : Hs} (g : h.Ok) {mode : Option Int} (hm : modeIn h mode) (wo : List Int) : usort (fun x => x) (eversF h ++ keptL h wo mode) = byF h mode wo := by
  refine ri_ext (fun x => x) (usort_ri _ _) (by_ri h mode wo) fun x => ?_
  rw [usort_mem (fun x : Int => x) (fun a _ b _ e => e), List.mem_append, mem_by, mem_evers]
  cases mode with
  | none => simp [keepB, keptL]
  | some m =>
    have mi := hm m rfl
    have mo := g.modes _ (mode_mem mi.1 mi.2)
    simp only [keptL, List.mem_filter, keepB, Bool.and_eq_true, decide_eq_true_eq]
    constructor
    · rintro (⟨a, b, c⟩ | ⟨a, b⟩)
      · exact ⟨a, b, .inl c⟩
      · have := mo.1 x a
        exact ⟨this.1, this.2, .inr ⟨a, b⟩⟩
    · rintro ⟨a, b, c | c⟩
      · exact .inl ⟨a, b, c⟩
      · exact .inr c
section
variable {S : Store} {p i : Nat} {P : Pc} {s : Sd}
theorem eyes_by_ev (g : P.pm.h.Ok) (hp : S[p]? = some (pC P)) (hs : S[i]? = some (sC s)) (hm : modeIn P.pm.h s.mode) : m_Panel_eyes_by [.ref p, .ref i] S = .ok (.lst ((byF P.pm.h s.mode s.wo).map .int)) S := by
  have ap := at_p hp
  have as := at_s hs
  have ne := g.ne
  have ev := evers_ev S P.pm.h (by omega)
  have el := evers_len P.pm.h
  have bs := by_sorted g hm s.wo
  cases hmo : s.mode with
  | none =>
    rw [hmo] at bs
    simp only [keptL, List.append_nil] at bs
    have ss : gSS [.lst ((eversF P.pm.h).map .int)] S = some (.lst ((byF P.pm.h none s.wo).map .int)) := by
      rw [← bs]
      simp only [gSS, ints_map]
      rw [if_pos (by omega)]
    have lm := l_mode s
    rw [hmo] at lm
    simp -implicitDefEqProofs [m_Panel_eyes_by, g_Panel_eyes_by, ap, ev, gList, as, lm, oD, gIs, isNonD, ss]
  | some m =>
    rw [hmo] at bs
    simp only [keptL] at bs
    have mi := hm m hmo
    have mo := modes_len (g.modes _ (mode_mem mi.1 mi.2))
    have ixm : gIx (.tup (P.pm.h.modes.map mD)) (.int m) S = some (.tup ((modeAt P.pm.h m).map .int)) := ix_mode S mi.1 mi.2
    have c := compT (e := D.int) (t := tgName 3) (ft := fB (f2 (gInX true) (fV 3) (fFld "Stand" "without" (fV 1)))) (fe := fV 3) (ρ := [some (.dat (.ref p)), some (.dat (.ref i)), some (.dat (.lst ((eversF P.pm.h).map .int))), none]) (S := S)
      (fun x => !decide (x ∈ s.wo)) D.int (xs := modeAt P.pm.h m) (by omega) (fun x _ => ⟨_, rfl, by simp -implicitDefEqProofs [as, inX_ints], fun _ => by simp -implicitDefEqProofs⟩)
    have fl := List.length_filter_le (fun x => !decide (x ∈ s.wo)) (modeAt P.pm.h m)
    have ga : gAdd (.lst ((eversF P.pm.h).map .int)) (.lst (((modeAt P.pm.h m).filter fun x => !decide (x ∈ s.wo)).map .int)) S = some (.lst ((eversF P.pm.h ++ (modeAt P.pm.h m).filter fun x => !decide (x ∈ s.wo)).map .int)) := by
      show (if _ then _ else _) = _
      rw [if_pos (lim_small (by simp only [List.length_map]; omega)), List.map_append]
    have ss : gSS [.lst ((eversF P.pm.h ++ (modeAt P.pm.h m).filter fun x => !decide (x ∈ s.wo)).map .int)] S = some (.lst ((byF P.pm.h (some m) s.wo).map .int)) := by
      rw [← bs]
      simp only [gSS, ints_map]
      rw [if_pos (by rw [List.length_append]; omega)]
    have lm := l_mode s
    rw [hmo] at lm
    generalize eversF P.pm.h ++ (modeAt P.pm.h m).filter (fun x => !decide (x ∈ s.wo)) = L at *
    generalize (modeAt P.pm.h m).filter (fun x => !decide (x ∈ s.wo)) = L2 at *
    simp -implicitDefEqProofs [m_Panel_eyes_by, g_Panel_eyes_by, ap, ev, gList, as, lm, oD, gIs, isNonD, ixm, wipeE, c, ga, ss]
end
def tripF (pm : Pm) (eye m : Int) (s : Sd) : Sd :=
  if (eyeAt pm.h eye).how = .ever then ringF pm eye m s
  else if eye ∈ byF pm.h s.mode s.wo ∧ (s.w = .set ∨ s.w = .entering ∨ s.w = .ringing) then
    if s.w = .set ∧ (eyeAt pm.h eye).how = .late ∧ 0 < pm.en then { s with w := .entering, fin := some (m + pm.en), cause := some eye }
    else if s.w ≠ .entering ∨ (eyeAt pm.h eye).how = .soon then ringF pm eye m s
    else s
  else s
theorem in_words (S : Store) (w : Wo) : gIn false (.str w.s) (.tup [.str "set", .str "entering", .str "ringing"]) S = some (.bl (decide (w = .set ∨ w = .entering ∨ w = .ringing))) := by
  cases w <;> simp [gIn, Wo.s, deq_str]
section
variable {S : Store} {p i : Nat} {P : Pc} {s : Sd}
theorem nm_ring : (pF P).lookup ("ring" : Str) = none := no_meth P (by simp)
theorem nm_hush : (pF P).lookup ("hush" : Str) = none := no_meth P (by simp)
theorem nm_trip : (pF P).lookup ("trip" : Str) = none := no_meth P (by simp)
theorem nm_eyes_by : (pF P).lookup ("eyes_by" : Str) = none := no_meth P (by simp)
theorem nm_turn : (pF P).lookup ("turn_by_time" : Str) = none := no_meth P (by simp)
theorem nm_behind : (pF P).lookup ("behind" : Str) = none := no_meth P (by simp)
theorem nm_turn_to : (pF P).lookup ("turn_to" : Str) = none := no_meth P (by simp)
theorem nm_need_door : (pF P).lookup ("need_door" : Str) = none := no_meth P (by simp)
theorem nm_tripped : (pF P).lookup ("tripped" : Str) = none := no_meth P (by simp)
theorem trip_ev (g : P.pm.h.Ok) (hp : S[p]? = some (pC P)) (hs : S[i]? = some (sC s)) (hm : modeIn P.pm.h s.mode) (hl : s.rings.length ≤ 900) {eye : Int} (h1 : 0 ≤ eye) (h2 : eye < P.pm.h.eyes.length) (m : Int) :
    m_Panel_trip [.ref p, .ref i, .int eye, .int m] S = .ok .non (S.set i (sC (tripF P.pm eye m s))) := by
  have ap := at_p hp
  have as := at_s hs
  have ne := ne_of_at hp hs
  have lt := lt_of_at hs
  have ix := ix_eye S h1 h2
  have rv := ring_ev hp hs hl eye m
  have ev := eyes_by_ev g hp hs hm
  have iw := in_words S s.w
  have il := inX_lst S false eye (byF P.pm.h s.mode s.wo)
  have qs := eq_set S false s.w
  have qe := eq_entering S true s.w
  have ql := eq_late S false (eyeAt P.pm.h eye).how
  have qo := eq_soon S false (eyeAt P.pm.h eye).how
  have qv := eq_ever S false (eyeAt P.pm.h eye).how
  have z3 : (3 : Nat) ≤ LIM := lim_small (by decide)
  unfold tripF
  by_cases c1 : (eyeAt P.pm.h eye).how = .ever
  · rw [if_pos c1]
    rw [decide_eq_true c1] at qv
    simp -implicitDefEqProofs [m_Panel_trip, g_Panel_trip, ap, ix, qv, nm_ring, rv]
  · rw [if_neg c1]
    rw [decide_eq_false c1] at qv
    by_cases c2 : eye ∈ byF P.pm.h s.mode s.wo
    · rw [decide_eq_true c2] at il
      by_cases c3 : s.w = .set ∨ s.w = .entering ∨ s.w = .ringing
      · rw [if_pos ⟨c2, c3⟩]
        rw [decide_eq_true c3] at iw
        by_cases c4 : s.w = .set ∧ (eyeAt P.pm.h eye).how = .late ∧ 0 < P.pm.en
        · rw [if_pos c4]
          obtain ⟨d1, d2, d3⟩ := c4
          rw [decide_eq_true d1] at qs
          rw [decide_eq_true d2] at ql
          simp -implicitDefEqProofs [m_Panel_trip, g_Panel_trip, ap, ix, qv, nm_eyes_by, ev, il, as, z3, iw, qs, ql, gI2, d3, at_set lt, at_set_ne ne, p_entering, p_endI, p_causeI, sC]
        · rw [if_neg c4]
          by_cases c5 : s.w ≠ .entering ∨ (eyeAt P.pm.h eye).how = .soon
          · rw [if_pos c5]
            by_cases d1 : s.w = .set
            · have d4 : ¬ s.w = .entering := by rw [d1]; decide
              rw [decide_eq_true d1] at qs
              rw [decide_eq_false d4] at qe
              by_cases d2 : (eyeAt P.pm.h eye).how = .late
              · have d3 : ¬ 0 < P.pm.en := fun z => c4 ⟨d1, d2, z⟩
                rw [decide_eq_true d2] at ql
                simp -implicitDefEqProofs [m_Panel_trip, g_Panel_trip, ap, ix, qv, nm_eyes_by, ev, il, as, z3, iw, qs, ql, gI2, d3, qe, nm_ring, rv]
              · rw [decide_eq_false d2] at ql
                simp -implicitDefEqProofs [m_Panel_trip, g_Panel_trip, ap, ix, qv, nm_eyes_by, ev, il, as, z3, iw, qs, ql, qe, nm_ring, rv]
            · rw [decide_eq_false d1] at qs
              by_cases d4 : s.w = .entering
              · have d5 : (eyeAt P.pm.h eye).how = .soon := c5.resolve_left fun z => z d4
                rw [decide_eq_true d4] at qe
                rw [decide_eq_true d5] at qo
                simp -implicitDefEqProofs [m_Panel_trip, g_Panel_trip, ap, ix, qv, nm_eyes_by, ev, il, as, z3, iw, qs, qe, qo, nm_ring, rv]
              · rw [decide_eq_false d4] at qe
                simp -implicitDefEqProofs [m_Panel_trip, g_Panel_trip, ap, ix, qv, nm_eyes_by, ev, il, as, z3, iw, qs, qe, nm_ring, rv]
          · rw [if_neg c5, set_same hs]
            have d4 : s.w = .entering := Classical.byContradiction fun z => c5 (.inl z)
            have d5 : ¬ (eyeAt P.pm.h eye).how = .soon := fun z => c5 (.inr z)
            have d1 : ¬ s.w = .set := by rw [d4]; decide
            rw [decide_eq_false d1] at qs
            rw [decide_eq_true d4] at qe
            rw [decide_eq_false d5] at qo
            simp -implicitDefEqProofs [m_Panel_trip, g_Panel_trip, ap, ix, qv, nm_eyes_by, ev, il, as, z3, iw, qs, qe, qo]
      · rw [if_neg (fun z => c3 z.2), set_same hs]
        rw [decide_eq_false c3] at iw
        simp -implicitDefEqProofs [m_Panel_trip, g_Panel_trip, ap, ix, qv, nm_eyes_by, ev, il, as, z3, iw]
    · rw [if_neg (fun z => c2 z.1), set_same hs]
      rw [decide_eq_false c2] at il
      simp -implicitDefEqProofs [m_Panel_trip, g_Panel_trip, ap, ix, qv, nm_eyes_by, ev, il]
end
end BW
namespace BW
open PySem L2
def openEye (h : Hs) (s : Sd) (eye : Int) : Prop := (eyeAt h eye).dr = true ∧ (eyeAt h eye).how ≠ .ever ∧ (eyeAt h eye).num ∈ s.wide
instance (h : Hs) (s : Sd) (eye : Int) : Decidable (openEye h s eye) := by unfold openEye; exact inferInstance
def wideF (pm : Pm) (m : Int) (s : Sd) (eye : Int) : Sd := if openEye pm.h s eye then tripF pm eye m s else s
def turnF (pm : Pm) (m : Int) (s : Sd) : Sd :=
  if s.w = .entering then ringF pm (s.cause.getD 0) m s
  else if s.w = .ringing then { hushF m s with w := if s.mode = none then .off else .set, fin := none }
  else (byF pm.h s.mode s.wo).foldl (wideF pm m) { s with w := .set, fin := none }
theorem ringF_mode (pm : Pm) (eye m : Int) (s : Sd) : (ringF pm eye m s).mode = s.mode ∧ (ringF pm eye m s).wo = s.wo ∧ (ringF pm eye m s).wide = s.wide ∧ (ringF pm eye m s).last = s.last ∧ (ringF pm eye m s).rows = s.rows := by
  unfold ringF; split <;> exact ⟨rfl, rfl, rfl, rfl, rfl⟩
theorem tripF_mode (pm : Pm) (eye m : Int) (s : Sd) : (tripF pm eye m s).mode = s.mode ∧ (tripF pm eye m s).wo = s.wo ∧ (tripF pm eye m s).wide = s.wide ∧ (tripF pm eye m s).last = s.last ∧ (tripF pm eye m s).rows = s.rows := by
  unfold tripF
  split
  · exact ringF_mode pm eye m s
  · split
    · split
      · exact ⟨rfl, rfl, rfl, rfl, rfl⟩
      · split
        · exact ringF_mode pm eye m s
        · exact ⟨rfl, rfl, rfl, rfl, rfl⟩
    · exact ⟨rfl, rfl, rfl, rfl, rfl⟩
theorem wideF_mode (pm : Pm) (m : Int) (s : Sd) (eye : Int) : (wideF pm m s eye).mode = s.mode ∧ (wideF pm m s eye).wo = s.wo ∧ (wideF pm m s eye).wide = s.wide ∧ (wideF pm m s eye).last = s.last ∧ (wideF pm m s eye).rows = s.rows := by
  unfold wideF; split
  · exact tripF_mode pm eye m s
  · exact ⟨rfl, rfl, rfl, rfl, rfl⟩
theorem fold_mode (pm : Pm) (m : Int) : ∀ (l : List Int) (s : Sd), (l.foldl (wideF pm m) s).mode = s.mode ∧ (l.foldl (wideF pm m) s).wo = s.wo ∧ (l.foldl (wideF pm m) s).wide = s.wide ∧ (l.foldl (wideF pm m) s).last = s.last ∧ (l.foldl (wideF pm m) s).rows = s.rows
  | [], s => ⟨rfl, rfl, rfl, rfl, rfl⟩
  | x :: l, s => by
    obtain ⟨a, b, c, d, e⟩ := fold_mode pm m l (wideF pm m s x)
    obtain ⟨a', b', c', d', e'⟩ := wideF_mode pm m s x
    rw [List.foldl_cons]
    exact ⟨a.trans a', b.trans b', c.trans c', d.trans d', e.trans e'⟩
theorem turnF_mode (pm : Pm) (m : Int) (s : Sd) : (turnF pm m s).mode = s.mode ∧ (turnF pm m s).wo = s.wo ∧ (turnF pm m s).wide = s.wide ∧ (turnF pm m s).last = s.last ∧ (turnF pm m s).rows = s.rows := by
  unfold turnF
  split
  · exact ringF_mode _ _ _ _
  · split
    · exact ⟨rfl, rfl, rfl, rfl, rfl⟩
    · exact fold_mode pm m _ _
theorem ringF_len (pm : Pm) (eye m : Int) (s : Sd) : (ringF pm eye m s).rings.length ≤ s.rings.length + 1 := by
  unfold ringF; split <;> simp
theorem tripF_len (pm : Pm) (eye m : Int) (s : Sd) : (tripF pm eye m s).rings.length ≤ s.rings.length + 1 := by
  have := ringF_len pm eye m s
  unfold tripF
  split
  · exact this
  · split
    · split
      · simp
      · split
        · exact this
        · omega
    · omega
theorem wideF_len (pm : Pm) (m : Int) (s : Sd) (eye : Int) : (wideF pm m s eye).rings.length ≤ s.rings.length + 1 := by
  unfold wideF; split
  · exact tripF_len pm eye m s
  · omega
theorem fold_len (pm : Pm) (m : Int) : ∀ (l : List Int) (s : Sd), (l.foldl (wideF pm m) s).rings.length ≤ s.rings.length + l.length
  | [], s => by simp
  | x :: l, s => by
    have := fold_len pm m l (wideF pm m s x)
    have := wideF_len pm m s x
    rw [List.foldl_cons, List.length_cons]
    omega
theorem hushL_len (m : Int) (l : List Ring) : (hushL m l).length = l.length := by
  unfold hushL
  split
  · rfl
  · rename_i r h
    have : l ≠ [] := by intro e; rw [e] at h; cases h
    have := List.length_pos_iff.mpr this
    simp
    omega
theorem turnF_len (pm : Pm) (g : pm.h.Ok) (m : Int) (s : Sd) : (turnF pm m s).rings.length ≤ s.rings.length + 12 := by
  unfold turnF
  split
  · have := ringF_len pm (s.cause.getD 0) m s; omega
  · split
    · show (hushL m s.rings).length ≤ _
      rw [hushL_len]; omega
    · have := fold_len pm m (byF pm.h s.mode s.wo) { s with w := .set, fin := none }
      have := by_len pm.h s.mode s.wo
      have := g.ne
      simp only at *
      omega
/-- how a stand has to be -/
structure Sd.Ok (pm : Pm) (s : Sd) : Prop where
  idle : s.w = .off ∨ s.w = .set → s.fin = none
  busy : s.w = .leaving ∨ s.w = .entering ∨ s.w = .ringing → ∃ m, s.fin = some m
  bell : s.w = .ringing → s.rings ≠ []
  why : s.w = .entering → ∃ c, s.cause = some c ∧ 0 ≤ c ∧ c < pm.h.eyes.length
  mode : modeIn pm.h s.mode
theorem ringF_w (pm : Pm) (eye m : Int) (s : Sd) : (ringF pm eye m s).w = .ringing := by
  unfold ringF; split
  · assumption
  · rfl
theorem ringF_ok {pm : Pm} {eye m : Int} {s : Sd} (h : s.Ok pm) : (ringF pm eye m s).Ok pm := by
  have hw := ringF_w pm eye m s
  have hm := (ringF_mode pm eye m s).1
  refine ⟨fun z => ?_, fun _ => ?_, fun _ => ?_, fun z => ?_, by rw [hm]; exact h.mode⟩
  · rw [hw] at z; rcases z with z | z <;> cases z
  · unfold ringF; split <;> exact ⟨_, rfl⟩
  · unfold ringF; split
    · rename_i hr; exact h.bell hr
    · simp
  · rw [hw] at z; cases z
theorem tripF_ok {pm : Pm} {eye m : Int} {s : Sd} (h : s.Ok pm) (h1 : 0 ≤ eye) (h2 : eye < pm.h.eyes.length) : (tripF pm eye m s).Ok pm := by
  unfold tripF
  split
  · exact ringF_ok h
  · split
    · split
      · exact ⟨fun z => (by rcases z with z | z <;> cases z), fun _ => ⟨_, rfl⟩, fun z => (by cases z), fun _ => ⟨_, rfl, h1, h2⟩, h.mode⟩
      · split
        · exact ringF_ok h
        · exact h
    · exact h
theorem wideF_ok {pm : Pm} {m : Int} {s : Sd} {eye : Int} (h : s.Ok pm) (h1 : 0 ≤ eye) (h2 : eye < pm.h.eyes.length) : (wideF pm m s eye).Ok pm := by
  unfold wideF; split
  · exact tripF_ok h h1 h2
  · exact h
theorem fold_ok {pm : Pm} {m : Int} : ∀ (l : List Int) {s : Sd}, s.Ok pm → (∀ x ∈ l, 0 ≤ x ∧ x < (pm.h.eyes.length : Int)) → (l.foldl (wideF pm m) s).Ok pm
  | [], s, h, _ => h
  | x :: l, s, h, hl => by
    rw [List.foldl_cons]
    have := hl x List.mem_cons_self
    exact fold_ok l (wideF_ok h this.1 this.2) fun y hy => hl y (List.mem_cons_of_mem _ hy)
theorem by_in {h : Hs} {mode : Option Int} {wo : List Int} : ∀ x ∈ byF h mode wo, 0 ≤ x ∧ x < (h.eyes.length : Int) := fun x hx => ⟨(mem_by.mp hx).1, (mem_by.mp hx).2.1⟩
theorem turnF_ok {pm : Pm} {m : Int} {s : Sd} (h : s.Ok pm) : (turnF pm m s).Ok pm := by
  unfold turnF
  split
  · exact ringF_ok h
  · split
    · refine ⟨fun _ => rfl, fun z => ?_, fun z => ?_, fun z => ?_, h.mode⟩
      · simp only at z; split at z <;> rcases z with z | z | z <;> cases z
      · simp only at z; split at z <;> cases z
      · simp only at z; split at z <;> cases z
    · refine fold_ok _ ⟨fun _ => rfl, fun z => ?_, fun z => ?_, fun z => ?_, h.mode⟩ by_in
      · rcases z with z | z | z <;> cases z
      · cases z
      · cases z
/-- how much may still come -/
def mu (s : Sd) : Nat := match s.w with
  | .leaving => 3
  | .entering => 2
  | .ringing => 1
  | _ => 0
theorem mu_ring (pm : Pm) (eye m : Int) (s : Sd) : mu (ringF pm eye m s) = 1 := by unfold mu; rw [ringF_w]
theorem mu_trip {pm : Pm} {eye m : Int} {s : Sd} (h : mu s ≤ 2) : mu (tripF pm eye m s) ≤ 2 := by
  unfold tripF
  split
  · rw [mu_ring]; omega
  · split
    · split
      · simp [mu]
      · split
        · rw [mu_ring]; omega
        · exact h
    · exact h
theorem mu_fold {pm : Pm} {m : Int} : ∀ (l : List Int) {s : Sd}, mu s ≤ 2 → mu (l.foldl (wideF pm m) s) ≤ 2
  | [], s, h => h
  | x :: l, s, h => by
    rw [List.foldl_cons]
    refine mu_fold l ?_
    unfold wideF
    split
    · exact mu_trip h
    · exact h
theorem mu_turn {pm : Pm} {m : Int} {s : Sd} (h : s.Ok pm) (hf : s.fin ≠ none) : mu (turnF pm m s) < mu s := by
  unfold turnF
  cases hw : s.w with
  | off => exact absurd (h.idle (.inl hw)) hf
  | set => exact absurd (h.idle (.inr hw)) hf
  | entering => simp [mu_ring]; simp [mu, hw]
  | ringing => by_cases hmo : s.mode = none <;> simp [mu, hw, hmo]
  | leaving =>
    have e : mu s = 3 := by simp [mu, hw]
    rw [e]
    simp
    have := mu_fold (pm := pm) (m := m) (byF pm.h s.mode s.wo) (s := { s with w := .set, fin := none }) (by simp [mu])
    omega
def due (m : Int) (s : Sd) : Bool := match s.fin with
  | none => false
  | some f => decide (f ≤ m)
def goF (pm : Pm) (m : Int) : Nat → Sd → Sd
  | 0, s => s
  | n + 1, s => if due m s = true then goF pm m n (turnF pm (s.fin.getD 0) s) else s
/-- all that comes by time up to a moment -/
def passF (pm : Pm) (m : Int) (s : Sd) : Sd := goF pm m 4 s
theorem due_fin {m : Int} {s : Sd} (h : due m s = true) : ∃ f, s.fin = some f ∧ f ≤ m := by
  unfold due at h
  split at h
  · cases h
  · rename_i f hf; exact ⟨f, hf, by simpa using h⟩
theorem mu_le (s : Sd) : mu s ≤ 3 := by unfold mu; split <;> omega
theorem go_ok {pm : Pm} {m : Int} : ∀ (n : Nat) {s : Sd}, s.Ok pm → (goF pm m n s).Ok pm
  | 0, s, h => h
  | n + 1, s, h => by
    unfold goF
    split
    · exact go_ok n (turnF_ok h)
    · exact h
theorem go_mode {pm : Pm} {m : Int} : ∀ (n : Nat) (s : Sd), (goF pm m n s).mode = s.mode ∧ (goF pm m n s).wo = s.wo ∧ (goF pm m n s).wide = s.wide ∧ (goF pm m n s).last = s.last ∧ (goF pm m n s).rows = s.rows
  | 0, s => ⟨rfl, rfl, rfl, rfl, rfl⟩
  | n + 1, s => by
    unfold goF
    split
    · obtain ⟨a, b, c, d, e⟩ := go_mode (pm := pm) (m := m) n (turnF pm (s.fin.getD 0) s)
      obtain ⟨a', b', c', d', e'⟩ := turnF_mode pm (s.fin.getD 0) s
      exact ⟨a.trans a', b.trans b', c.trans c', d.trans d', e.trans e'⟩
    · exact ⟨rfl, rfl, rfl, rfl, rfl⟩
theorem go_len {pm : Pm} (g : pm.h.Ok) {m : Int} : ∀ (n : Nat) (s : Sd), (goF pm m n s).rings.length ≤ s.rings.length + 12 * n
  | 0, s => by unfold goF; omega
  | n + 1, s => by
    unfold goF
    split
    · have := go_len g (m := m) n (turnF pm (s.fin.getD 0) s)
      have := turnF_len pm g (s.fin.getD 0) s
      omega
    · omega
theorem pass_ok {pm : Pm} {m : Int} {s : Sd} (h : s.Ok pm) : (passF pm m s).Ok pm := go_ok 4 h
theorem pass_mode (pm : Pm) (m : Int) (s : Sd) : (passF pm m s).mode = s.mode ∧ (passF pm m s).wo = s.wo ∧ (passF pm m s).wide = s.wide ∧ (passF pm m s).last = s.last ∧ (passF pm m s).rows = s.rows := go_mode 4 s
theorem pass_len {pm : Pm} (g : pm.h.Ok) (m : Int) (s : Sd) : (passF pm m s).rings.length ≤ s.rings.length + 48 := go_len g 4 s
end BW
namespace BW
open PySem L2
section
variable {S : Store} {p i : Nat} {P : Pc} {s : Sd}
theorem eyeD (e : Eye) : eD e = .tup [.str (wS e.dr), .int e.num, .str e.how.s] := rfl
theorem at_other {c : Cell} (hp : S[p]? = some (pC P)) (h : i ≠ p) : (S.set i c)[p]? = some (pC P) := by rw [List.getElem?_set_ne h]; exact hp
theorem at_self {c : Cell} (h : i < S.length) : (S.set i c)[i]? = some c := List.getElem?_set_self h
/-- a turn of the loop over those that watch -/
theorem wide_ev (g : P.pm.h.Ok) (hp : S[p]? = some (pC P)) (hs : S[i]? = some (sC s)) (hm : modeIn P.pm.h s.mode) (hl : s.rings.length ≤ 900) {eye : Int} (h1 : 0 ≤ eye) (h2 : eye < P.pm.h.eyes.length) (m : Int) (x4 x5 x6 : Option Slot) :
    b_Panel_turn_by_time_1 [some (.dat (.ref p)), some (.dat (.ref i)), some (.dat (.int m)), some (.dat (.int eye)), x4, x5, x6] S = .next [some (.dat (.ref p)), some (.dat (.ref i)), some (.dat (.int m)), some (.dat (.int eye)), some (.dat (.str (wS (eyeAt P.pm.h eye).dr))), some (.dat (.int (eyeAt P.pm.h eye).num)), some (.dat (.str (eyeAt P.pm.h eye).how.s))] (S.set i (sC (wideF P.pm m s eye))) := by
  have ap := at_p hp
  have as := at_s hs
  have ix := ix_eye S h1 h2
  rw [eyeD] at ix
  have tv := trip_ev g hp hs hm hl h1 h2 m
  have qd := eq_door S false (eyeAt P.pm.h eye).dr
  have qv := eq_ever S true (eyeAt P.pm.h eye).how
  have iw := inX_ints S false (eyeAt P.pm.h eye).num s.wide
  unfold wideF
  by_cases c1 : (eyeAt P.pm.h eye).dr = true
  · have qd : gEq false (.str (wS (eyeAt P.pm.h eye).dr)) (.str "door") S = some (.bl true) := by rw [qd, c1]; rfl
    by_cases c2 : (eyeAt P.pm.h eye).how = .ever
    · rw [if_neg (fun z => z.2.1 c2), set_same hs]
      rw [decide_eq_true c2] at qv
      simp -implicitDefEqProofs [b_Panel_turn_by_time_1, ap, ix, qd, qv]
    · rw [decide_eq_false c2] at qv
      by_cases c3 : (eyeAt P.pm.h eye).num ∈ s.wide
      · rw [if_pos ⟨c1, c2, c3⟩]
        rw [decide_eq_true c3] at iw
        simp -implicitDefEqProofs [b_Panel_turn_by_time_1, ap, ix, qd, qv, as, iw, nm_trip, tv]
      · rw [if_neg (fun z => c3 z.2.2), set_same hs]
        rw [decide_eq_false c3] at iw
        simp -implicitDefEqProofs [b_Panel_turn_by_time_1, ap, ix, qd, qv, as, iw]
  · have qd : gEq false (.str (wS (eyeAt P.pm.h eye).dr)) (.str "door") S = some (.bl false) := by rw [qd, (by simpa using c1 : (eyeAt P.pm.h eye).dr = false)]; rfl
    rw [if_neg (fun z => c1 z.1), set_same hs]
    simp -implicitDefEqProofs [b_Panel_turn_by_time_1, ap, ix, qd]
theorem turn_ev (g : P.pm.h.Ok) (hp : S[p]? = some (pC P)) (hs : S[i]? = some (sC s)) (ok : s.Ok P.pm) (hl : s.rings.length ≤ 800) {m : Int} (hf : s.fin = some m) : m_Panel_turn_by_time [.ref p, .ref i] S = .ok .non (S.set i (sC (turnF P.pm m s))) := by
  have ap := at_p hp
  have as := at_s hs
  have ne := ne_of_at hp hs
  have lt := lt_of_at hs
  have le := l_end s
  rw [hf] at le
  have qe := eq_entering S false s.w
  have qr := eq_ringing S false s.w
  unfold turnF
  by_cases c1 : s.w = .entering
  · rw [if_pos c1]
    obtain ⟨c, hc, c2, c3⟩ := ok.why c1
    have lc := l_cause s
    rw [hc] at lc ⊢
    have rv := ring_ev hp hs (by omega) c m
    rw [decide_eq_true c1] at qe
    simp -implicitDefEqProofs [m_Panel_turn_by_time, g_Panel_turn_by_time, as, le, oD, qe, ap, nm_ring, lc, rv]
  · rw [if_neg c1]
    rw [decide_eq_false c1] at qe
    by_cases c2 : s.w = .ringing
    · rw [if_pos c2]
      rw [decide_eq_true c2] at qr
      have hv := hush_ev hp hs (by omega) (ok.bell c2) m
      have as1 := at_s (at_self (c := sC (hushF m s)) lt)
      have lm : (sF (hushF m s)).lookup ("mode" : Str) = some (oD s.mode) := l_mode (hushF m s)
      cases hmo : s.mode with
      | none =>
        rw [hmo] at lm
        simp -implicitDefEqProofs [m_Panel_turn_by_time, g_Panel_turn_by_time, as, le, oD, qe, qr, ap, nm_hush, hv, as1, lm, gIs, isNonD, p_off, at_set lt, p_endN, sC]
      | some k =>
        rw [hmo] at lm
        simp -implicitDefEqProofs [m_Panel_turn_by_time, g_Panel_turn_by_time, as, le, oD, qe, qr, ap, nm_hush, hv, as1, lm, gIs, isNonD, p_set, at_set lt, p_endN, sC]
    · rw [if_neg c2]
      rw [decide_eq_false c2] at qr
      have hp0 : (S.set i (sC { s with w := .set, fin := none }))[p]? = some (pC P) := at_other hp ne
      have hs0 : (S.set i (sC { s with w := .set, fin := none }))[i]? = some (sC { s with w := .set, fin := none }) := at_self lt
      have ev := eyes_by_ev g hp0 hs0 ok.mode
      simp only at ev
      obtain ⟨ρ', S', e1, ⟨x3, x4, x5, x6, hρ⟩, hS⟩ := forD (e := D.int) (t := tgName 3) (g := b_Panel_turn_by_time_1) (fun dn ρ S' => (∃ x3 x4 x5 x6, ρ = [some (.dat (.ref p)), some (.dat (.ref i)), some (.dat (.int m)), x3, x4, x5, x6]) ∧ S' = S.set i (sC (dn.foldl (wideF P.pm m) { s with w := .set, fin := none })))
        (byF P.pm.h s.mode s.wo) [] [some (.dat (.ref p)), some (.dat (.ref i)), some (.dat (.int m)), none, none, none, none] (S.set i (sC { s with w := .set, fin := none })) ⟨⟨_, _, _, _, rfl⟩, rfl⟩ (fun dn x r ρ S' hd ⟨⟨x3, x4, x5, x6, hρ⟩, hS⟩ => by
          subst hρ hS
          rw [List.nil_append] at hd
          have xm : x ∈ byF P.pm.h s.mode s.wo := by rw [hd]; simp
          have xi := by_in x xm
          have bl := by_len P.pm.h s.mode s.wo
          have gn := g.ne
          have dl : dn.length ≤ 12 := by
            have := congrArg List.length hd
            simp at this
            omega
          have fl := fold_len P.pm m dn { s with w := .set, fin := none }
          have fm := (fold_mode P.pm m dn { s with w := .set, fin := none }).1
          simp only at fl fm
          generalize hs2 : dn.foldl (wideF P.pm m) { s with w := .set, fin := none } = s2 at *
          have wv := wide_ev (S := S.set i (sC s2)) g (at_other hp ne) (at_self lt) (by rw [fm]; exact ok.mode) (by omega) xi.1 xi.2 m x4 x5 x6
          rw [List.set_set] at wv
          refine ⟨_, _, _, rfl, wv, ⟨_, _, _, _, rfl⟩, ?_⟩
          rw [List.foldl_append, hs2]
          rfl)
      subst hρ hS
      rw [List.nil_append] at e1
      generalize byF P.pm.h s.mode s.wo = L at *
      have e2 : (S.set i (.ins "Stand" (sF { s with w := .set, fin := none }))) = S.set i (sC { s with w := .set, fin := none }) := rfl
      have as0 := at_p hp0
      simp -implicitDefEqProofs [m_Panel_turn_by_time, g_Panel_turn_by_time, as, le, oD, qe, qr, p_set, at_set lt, p_endN, e2, as0, nm_eyes_by, ev, e1]
end
end BW
namespace BW
open PySem L2
def sd0 : Sd := ⟨.off, none, none, [], [], 0, [], none, []⟩
section
variable {S : Store} {p i : Nat} {P : Pc} {s : Sd}
theorem at_new {c : Cell} : (S ++ [c])[S.length]? = some c := by simp
theorem at_old {c d : Cell} (h : S[i]? = some d) : (S ++ [c])[i]? = some d := by rw [List.getElem?_append_left (lt_of_at h)]; exact h
theorem set_new (c d : Cell) : (S ++ [c]).set S.length d = S ++ [d] := by simp
theorem ins_new (cl : Str) (fs : List (Str × D)) : insAt cl (.ref S.length) (S ++ [.ins cl fs]) = some (S.length, fs) := by simp [insAt]
theorem stand_init : m_Stand_init [.ref S.length] (S ++ [.ins "Stand" []]) = .ok .non (S ++ [sC sd0]) := by
  simp -implicitDefEqProofs [m_Stand_init, g_Stand_init, ins_new, set_new, putFD, lim_small, sC, sF, sd0, Wo.s, oD, mD]
theorem copy_ev (hs : S[i]? = some (sC s)) : m_Stand_copy [.ref i] S = .ok (.ref S.length) (S ++ [sC s]) := by
  have ne : S.length ≠ i := fun e => by have := lt_of_at hs; omega
  have as : ∀ c : Cell, insAt "Stand" (.ref i) (S ++ [c]) = some (i, sF s) := fun c => at_s (at_old hs)
  have si := stand_init (S := S)
  have e : sC sd0 = .ins "Stand" (sF sd0) := rfl
  rw [e] at si
  have fin : ∀ s' : Sd, s'.w = s.w → s'.fin = s.fin → s'.mode = s.mode → s'.wo = s.wo → s'.wide = s.wide → s'.last = s.last → s'.rings = s.rings → s'.cause = s.cause → s'.rows = s.rows → s' = s := by
    intro s' a b c d e f g h i
    cases s'; cases s; simp_all
  simp -implicitDefEqProofs [m_Stand_copy, g_Stand_copy, si, as, ins_new, set_new, p_word, p_end, p_mode, p_without, p_wide, p_last, p_rings, p_cause, p_rows, sC]
theorem pass_ev {t : Env → Store → Res Bool} {b : Stm} (g : P.pm.h.Ok) (m : Int) (ρ : Env) (p i : Nat) (S : Store) (hp : S[p]? = some (pC P))
    (ht : ∀ S s, S[i]? = some (sC s) → t ρ S = .ok (due m s) S) (hb : ∀ S s, S[p]? = some (pC P) → S[i]? = some (sC s) → s.Ok P.pm → s.rings.length ≤ 800 → ∀ f, s.fin = some f → b ρ S = .next ρ (S.set i (sC (turnF P.pm f s)))) :
    ∀ (n : Nat) (s : Sd), s.Ok P.pm → mu s ≤ n → s.rings.length ≤ 800 - 12 * n → n ≤ 60 → S[i]? = some (sC s) → ∀ k, whileL t b (n + 1 + k) ρ S = .next ρ (S.set i (sC (goF P.pm m n s))) := by
  intro n
  induction n generalizing S with
  | zero =>
    intro s ok hm hl hn hs k
    have nd : due m s = false := by
      cases h : due m s with
      | false => rfl
      | true =>
        obtain ⟨f, hf, _⟩ := due_fin h
        have := mu_turn (m := 0) ok (by rw [hf]; simp)
        omega
    rw [show 0 + 1 + k = k + 1 by omega]
    unfold whileL goF
    rw [ht S s hs, nd, set_same hs]
    rfl
  | succ n ih =>
    intro s ok hm hl hn hs k
    have ne := ne_of_at hp hs
    have lt := lt_of_at hs
    rw [show n + 1 + 1 + k = (n + 1 + k) + 1 by omega]
    unfold whileL goF
    rw [ht S s hs]
    cases h : due m s with
    | false =>
      rw [if_neg Bool.false_ne_true, set_same hs]
      rfl
    | true =>
      obtain ⟨f, hf, _⟩ := due_fin h
      have mt := mu_turn (m := f) ok (by rw [hf]; simp)
      have tl := turnF_len P.pm g f s
      have hbv := hb S s hp hs ok (by omega) f hf
      simp only [oof_ok, if_true]
      rw [hbv, hf]
      have := ih (S.set i (sC (turnF P.pm f s))) (at_other hp ne) (turnF P.pm f s) (turnF_ok ok) (by omega) (by omega) (by omega) (at_self lt) k
      rw [List.set_set] at this
      exact this
def behF (pm : Pm) (m : Int) (s : Sd) : Sd := { passF pm m s with last := m }
theorem due_ev {ρ : Env} {i : Nat} {m : Int} {x y : Nat} (hx : ρ[x]? = some (some (.dat (.ref i)))) (hy : ρ[y]? = some (some (.dat (.int m)))) (S : Store) (s : Sd) (hs : S[i]? = some (sC s)) :
    fAnd (fB (f2 (gIs true) (fFld "Stand" "end" (fV x)) (fC .non))) (fB (f2 gLe (fFld "Stand" "end" (fV x)) (fV y))) ρ S = .ok (due m s) S := by
  have as := at_s hs
  have fx := fV_at (S := S) hx
  have fy := fV_at (S := S) hy
  unfold due
  cases hf : s.fin with
  | none =>
    have le := l_end s
    rw [hf] at le
    simp -implicitDefEqProofs [fx, as, le, oD, gIs, isNonD]
  | some f =>
    have le := l_end s
    rw [hf] at le
    simp -implicitDefEqProofs [fx, fy, as, le, oD, gIs, isNonD, gI2]
theorem behind_ev (g : P.pm.h.Ok) (hp : S[p]? = some (pC P)) (hs : S[P.here]? = some (sC s)) (ok : s.Ok P.pm) (hl : s.rings.length ≤ 700) {m : Int} (hm : s.last ≤ m) : m_Panel_behind [.ref p, .int m] S = .ok (.ref S.length) (S ++ [sC (behF P.pm m s)]) := by
  have ap := at_p hp
  have as := at_s hs
  have cv := copy_ev hs
  have nt : ¬ m < s.last := by omega
  have hp1 : (S ++ [sC s])[p]? = some (pC P) := at_old hp
  have pv := pass_ev (t := fAnd (fB (f2 (gIs true) (fFld "Stand" "end" (fV 2)) (fC .non))) (fB (f2 gLe (fFld "Stand" "end" (fV 2)) (fV 1)))) (b := b_Panel_behind_1) g m [some (.dat (.ref p)), some (.dat (.int m)), some (.dat (.ref S.length))] p S.length (S ++ [sC s]) hp1
    (fun S' s' h' => due_ev rfl rfl S' s' h') (fun S' s' hp' hs' ok' hl' f hf => by
      have tv := turn_ev g hp' hs' ok' hl' hf
      have ap' := at_p hp'
      simp -implicitDefEqProofs [b_Panel_behind_1, ap', nm_turn, tv]) 4 s ok (by have := mu_le s; omega) (by omega) (by omega) at_new 995
  have e1 : sWhile (fAnd (fB (f2 (gIs true) (fFld "Stand" "end" (fV 2)) (fC .non))) (fB (f2 gLe (fFld "Stand" "end" (fV 2)) (fV 1)))) b_Panel_behind_1 [some (.dat (.ref p)), some (.dat (.int m)), some (.dat (.ref S.length))] (S ++ [sC s]) = .next [some (.dat (.ref p)), some (.dat (.int m)), some (.dat (.ref S.length))] (S ++ [sC (passF P.pm m s)]) := by
    have : sWhile (fAnd (fB (f2 (gIs true) (fFld "Stand" "end" (fV 2)) (fC .non))) (fB (f2 gLe (fFld "Stand" "end" (fV 2)) (fV 1)))) b_Panel_behind_1 [some (.dat (.ref p)), some (.dat (.int m)), some (.dat (.ref S.length))] (S ++ [sC s]) = _ := pv
    rw [this, set_new]
    rfl
  have e2 : sC (passF P.pm m s) = .ins "Stand" (sF (passF P.pm m s)) := rfl
  refine mOf_ret ?_
  unfold g_Panel_behind
  refine (seq_next (ρ1 := [some (.dat (.ref p)), some (.dat (.int m)), none]) (S1 := S) (by simp -implicitDefEqProofs [ap, as, gLt, nt])).trans ?_
  refine (seq_next (ρ1 := [some (.dat (.ref p)), some (.dat (.int m)), some (.dat (.ref S.length))]) (S1 := S ++ [sC s]) (by simp -implicitDefEqProofs [ap, as, cv])).trans ?_
  refine (seq_next e1).trans ?_
  rw [e2]
  simp -implicitDefEqProofs [ins_new, p_last, set_new, sC, behF]
theorem behind_no (hp : S[p]? = some (pC P)) (hs : S[P.here]? = some (sC s)) {m : Int} (hm : m < s.last) : m_Panel_behind [.ref p, .int m] S = .err "NoTime" S := by
  have ap := at_p hp
  have as := at_s hs
  simp -implicitDefEqProofs [m_Panel_behind, g_Panel_behind, ap, as, gLt, hm]
end
end BW
namespace BW
open PySem L2
def rowD (m : Int) (w : Str) (d : D) : D := .tup [.int m, .str w, d]
def logF (w : Str) (d : D) (s : Sd) : Sd := { s with rows := s.rows ++ [rowD s.last w d] }
def nextP (P : Pc) (w : Str) (n : Nat) : Pc := { P with here := n, gone := P.gone ++ [(w, P.here)], coming := [] }
def put (S : Store) (p : Nat) (s : Sd) (P : Pc) : Store := (S ++ [sC s]).set p (pC P)
section
variable {S : Store} {p i : Nat} {P : Pc} {s : Sd}
theorem turn_to_ev (hp : S[p]? = some (pC P)) (hs : S[i]? = some (sC s)) (hr : s.rows.length ≤ 900) (hg : P.gone.length ≤ 900) (w : Str) (d : D) :
    m_Panel_turn_to [.ref p, .ref i, .str w, d] S = .ok (.str s.w.s) ((S.set i (sC (logF w d s))).set p (pC (nextP P w i))) := by
  have ne := ne_of_at hp hs
  have lt := lt_of_at hs
  have ltp := lt_of_at hp
  have ap := at_p hp
  have as := at_s hs
  have ga : gAdd (.tup s.rows) (.tup [.tup [.int s.last, .str w, d]]) S = some (.tup (s.rows ++ [rowD s.last w d])) := by
    show (if _ then _ else _) = _
    rw [if_pos (lim_small (by simp; omega))]
    rfl
  have gb : ∀ S' : Store, gAdd (.lst (P.gone.map gD)) (.lst [.tup [.str w, .ref P.here]]) S' = some (.lst ((P.gone ++ [(w, P.here)]).map gD)) := fun S' => by
    show (if _ then _ else _) = _
    rw [if_pos (lim_small (by simp; omega)), List.map_append]
    rfl
  have pr := p_rows s (s.rows ++ [rowD s.last w d])
  have pg := p_gone P (P.gone ++ [(w, P.here)])
  have pc : ∀ P : Pc, putFD "coming" (.lst []) (pF P) = pF { P with coming := [] } := fun P => p_coming P []
  unfold logF nextP
  generalize s.rows ++ [rowD s.last w d] = L at *
  generalize P.gone ++ [(w, P.here)] = L2 at *
  have ap1 : ∀ c : Cell, insAt "Panel" (.ref p) (S.set i c) = some (p, pF P) := fun c => at_p (at_other hp ne)
  have lt1 : ∀ c : Cell, p < (S.set i c).length := fun c => by rw [List.length_set]; exact ltp
  have s1 : ∀ (c : Cell) (fs : List (Str × D)), insAt "Panel" (.ref p) ((S.set i c).set p (.ins "Panel" fs)) = some (p, fs) := fun c fs => at_set (lt1 c)
  have s2 : ∀ (x : List (Str × D)) (c : Cell), insAt "Stand" (.ref i) ((S.set i (.ins "Stand" x)).set p c) = some (i, x) := fun x c => by rw [at_set_ne (Ne.symm ne)]; exact at_set lt
  simp -implicitDefEqProofs [m_Panel_turn_to, g_Panel_turn_to, as, ga, pr, lim_small, ap1, gb, pg, s1, pc, p_here, s2, sC, pC]
theorem put_ev (hp : S[p]? = some (pC P)) (hr : s.rows.length ≤ 900) (hg : P.gone.length ≤ 900) (w : Str) (d : D) :
    m_Panel_turn_to [.ref p, .ref S.length, .str w, d] (S ++ [sC s]) = .ok (.str s.w.s) (put S p (logF w d s) (nextP P w S.length)) := by
  have := turn_to_ev (S := S ++ [sC s]) (i := S.length) (at_old hp) at_new hr hg w d
  rw [set_new] at this
  exact this
def eyeNo (h : Hs) (b : Bool) (num : Int) : Option Int := ((h.eyes.zipIdx.filter fun q => decide (q.1.dr = b) && decide (q.1.num = num)).map fun q => (q.2 : Int)).head?
theorem eq_place (S : Store) (e : Eye) (b : Bool) (num : Int) : gEq false (placeD e) (.tup [.str (wS b), .int num]) S = some (.bl (decide (e.dr = b) && decide (e.num = num))) := by
  rw [eq_ok S false (by simp [placeD]) (by simp)]
  simp only [placeD, deq_tup, deqs_cons, deq_str, deqs_nil, Bool.and_true, Bool.false_xor, wS_beq, deq_intD]
  congr 2
theorem eye_at_ev (S : Store) (h : Hs) (hl : h.eyes.length ≤ 1000) (b : Bool) (num : Int) : m_eye_at [hD h, .str (wS b), .int num] S = .ok (oD (eyeNo h b num)) S := by
  have c := compT (e := fun q : Eye × Nat => D.tup [.int (q.2 : Nat), eD q.1]) (t := tgTup 2 (tgCons (tgName 4) (tgCons (tgName 5) tgNil))) (ft := fB (f2 (gEq false) (fCut (fV 5) oNone (oSome (fC (.int 2)))) (fTup (fCons (fV 1) (fCons (fV 2) fNil))))) (fe := fV 4) (ρ := [some (.dat (hD h)), some (.dat (.str (wS b))), some (.dat (.int num)), none, none, none]) (S := S)
    (fun q => decide (q.1.dr = b) && decide (q.1.num = num)) (fun q => .int (q.2 : Nat)) (xs := h.eyes.zipIdx) (by simp; omega) (fun x _ => ⟨_, rfl, by
      have ct : gCut (eD x.1) none (some 2) = some (placeD x.1) := by simp [gCut, eD, cut_to2, placeD]
      simp -implicitDefEqProofs [ct, lim_small, eq_place], fun _ => by simp -implicitDefEqProofs⟩)
  have e : ((h.eyes.zipIdx.filter fun q => decide (q.1.dr = b) && decide (q.1.num = num)).map fun q => D.int (q.2 : Nat)) = ((h.eyes.zipIdx.filter fun q => decide (q.1.dr = b) && decide (q.1.num = num)).map fun q => (q.2 : Int)).map .int := by rw [List.map_map]; rfl
  rw [e] at c
  unfold eyeNo
  generalize (h.eyes.zipIdx.filter fun q => decide (q.1.dr = b) && decide (q.1.num = num)).map (fun q => (q.2 : Int)) = L at *
  cases L with
  | nil =>
    have q : gEq true (.lst []) (.lst []) S = some (.bl false) := rfl
    simp -implicitDefEqProofs [m_eye_at, g_eye_at, enum_eyes, wipeE, c, lim_small, q, oD]
  | cons x L =>
    have q : gEq true (.lst ((x :: L).map .int)) (.lst []) S = some (.bl true) := by rw [eq_ok S true (by simp) (by simp)]; simp
    simp only [List.map_cons] at q c
    have ix : gIx (.lst (.int x :: L.map .int)) (.int 0) S = some (.int x) := by rw [ix_lst _ _ (by decide)]; rfl
    simp -implicitDefEqProofs [m_eye_at, g_eye_at, enum_eyes, wipeE, c, lim_small, q, ix, oD]
theorem eyeNo_in {h : Hs} {b : Bool} {num e : Int} (he : eyeNo h b num = some e) : 0 ≤ e ∧ e < h.eyes.length ∧ (eyeAt h e).dr = b ∧ (eyeAt h e).num = num := by
  unfold eyeNo at he
  have hm := List.mem_of_mem_head? he
  obtain ⟨q, hq, rfl⟩ := List.mem_map.mp hm
  obtain ⟨q1, q2⟩ := List.mem_filter.mp hq
  obtain ⟨x, k⟩ := q
  have g := zipIdx_iff.mp q1
  have lt := (List.getElem?_eq_some_iff.mp g).1
  simp only [Bool.and_eq_true, decide_eq_true_eq] at q2
  have : eyeAt h (k : Int) = x := by unfold eyeAt; rw [Int.toNat_natCast, g]; rfl
  simp only [this]
  exact ⟨by omega, by omega, q2.1, q2.2⟩
def atF (pm : Pm) (b : Bool) (num : Int) (s : Sd) : Sd := match eyeNo pm.h b num with
  | none => s
  | some e => tripF pm e s.last s
theorem tripped_ev (g : P.pm.h.Ok) (hp : S[p]? = some (pC P)) (hs : S[i]? = some (sC s)) (hm : modeIn P.pm.h s.mode) (hl : s.rings.length ≤ 900) (b : Bool) (num : Int) :
    m_Panel_tripped [.ref p, .ref i, .str (wS b), .int num] S = .ok .non (S.set i (sC (atF P.pm b num s))) := by
  have ap := at_p hp
  have as := at_s hs
  have ne := g.ne
  have ev := eye_at_ev S P.pm.h (by omega) b num
  unfold atF
  cases he : eyeNo P.pm.h b num with
  | none =>
    rw [he] at ev
    simp only
    rw [set_same hs]
    simp -implicitDefEqProofs [m_Panel_tripped, g_Panel_tripped, ap, ev, oD, gIs, isNonD]
  | some e =>
    rw [he] at ev
    have ei := eyeNo_in he
    have tv := trip_ev g hp hs hm hl ei.1 ei.2.1 s.last
    simp -implicitDefEqProofs [m_Panel_tripped, g_Panel_tripped, ap, ev, oD, gIs, isNonD, as, nm_trip, tv]
theorem atF_ok {pm : Pm} {b : Bool} {num : Int} {s : Sd} (h : s.Ok pm) : (atF pm b num s).Ok pm := by
  unfold atF
  split
  · exact h
  · rename_i e he
    have ei := eyeNo_in he
    exact tripF_ok h ei.1 ei.2.1
theorem atF_mode (pm : Pm) (b : Bool) (num : Int) (s : Sd) : (atF pm b num s).mode = s.mode ∧ (atF pm b num s).wo = s.wo ∧ (atF pm b num s).wide = s.wide ∧ (atF pm b num s).last = s.last ∧ (atF pm b num s).rows = s.rows := by
  unfold atF
  split
  · exact ⟨rfl, rfl, rfl, rfl, rfl⟩
  · exact tripF_mode _ _ _ _
end
end BW
namespace BW
open PySem L2
section
variable {S : Store} {p : Nat} {P : Pc} {s : Sd}
/-- a panel that stands so -/
structure At (S : Store) (p : Nat) (P : Pc) (s : Sd) : Prop where
  g : P.pm.h.Ok
  cp : S[p]? = some (pC P)
  cs : S[P.here]? = some (sC s)
  ok : s.Ok P.pm
  lr : s.rings.length ≤ 600
  lw : s.rows.length ≤ 800
  lg : P.gone.length ≤ 800
theorem behF_ok {pm : Pm} {m : Int} {s : Sd} (h : s.Ok pm) : (behF pm m s).Ok pm := by
  have := pass_ok (m := m) h
  exact ⟨this.idle, this.busy, this.bell, this.why, this.mode⟩
theorem beh_len {pm : Pm} (g : pm.h.Ok) (m : Int) (s : Sd) : (behF pm m s).rings.length ≤ s.rings.length + 48 := pass_len g m s
theorem At.beh (h : At S p P s) {m : Int} (hm : s.last ≤ m) : m_Panel_behind [.ref p, .int m] S = .ok (.ref S.length) (S ++ [sC (behF P.pm m s)]) := behind_ev h.g h.cp h.cs h.ok (by have := h.lr; omega) hm
theorem At.no (h : At S p P s) {m : Int} (hm : m < s.last) : m_Panel_behind [.ref p, .int m] S = .err "NoTime" S := behind_no h.cp h.cs hm
theorem beh_rows (pm : Pm) (m : Int) (s : Sd) : (behF pm m s).rows = s.rows := (pass_mode pm m s).2.2.2.2
theorem beh_wide (pm : Pm) (m : Int) (s : Sd) : (behF pm m s).wide = s.wide := (pass_mode pm m s).2.2.1
theorem fold_sC (s : Sd) : Cell.ins "Stand" (sF s) = sC s := rfl
theorem fold_pC (P : Pc) : Cell.ins "Panel" (pF P) = pC P := rfl
theorem wait_ev (h : At S p P s) {m : Int} (hm : s.last ≤ m) : m_Panel_wait [.ref p, .int m] S = .ok (.str (behF P.pm m s).w.s) (put S p (logF "wait" .non (behF P.pm m s)) (nextP P "wait" S.length)) := by
  have ap := at_p h.cp
  have bv := h.beh hm
  have tv := put_ev (s := behF P.pm m s) h.cp (by rw [beh_rows]; have := h.lw; omega) (by have := h.lg; omega) "wait" .non
  simp -implicitDefEqProofs [m_Panel_wait, g_Panel_wait, ap, nm_turn_to, nm_behind, bv, tv]
theorem wait_no (h : At S p P s) {m : Int} (hm : m < s.last) : m_Panel_wait [.ref p, .int m] S = .err "NoTime" S := by
  have ap := at_p h.cp
  simp -implicitDefEqProofs [m_Panel_wait, g_Panel_wait, ap, nm_turn_to, nm_behind, h.no hm]
def openF (pm : Pm) (d m : Int) (s : Sd) : Sd := atF pm true d { behF pm m s with wide := isort ((behF pm m s).wide ++ [d]) }
def closeF (pm : Pm) (d m : Int) (s : Sd) : Sd := { behF pm m s with wide := (behF pm m s).wide.filter fun x => !decide (x = d) }
theorem need_door_ok (h : At S p P s) {d : Int} (h1 : 0 ≤ d) (h2 : d < P.pm.h.doors.length) (c : Cell) : m_Panel_need_door [.ref p, .int d] (S ++ [c]) = .ok .non (S ++ [c]) := by
  have ap := at_p (at_old (c := c) h.cp)
  have n := num_ev (S ++ [c]) d 0 ((P.pm.h.doors.length : Int) - 1)
  rw [inB_yes (by omega)] at n
  simp -implicitDefEqProofs [m_Panel_need_door, g_Panel_need_door, ap, n]
theorem need_door_no (h : At S p P s) {d : Int} (hd : ¬ (0 ≤ d ∧ d < P.pm.h.doors.length)) (c : Cell) : m_Panel_need_door [.ref p, .int d] (S ++ [c]) = .err "NoDoor" (S ++ [c]) := by
  have ap := at_p (at_old (c := c) h.cp)
  have n := num_ev (S ++ [c]) d 0 ((P.pm.h.doors.length : Int) - 1)
  rw [inB_no (by omega)] at n
  simp -implicitDefEqProofs [m_Panel_need_door, g_Panel_need_door, ap, n]
theorem opened_notime (h : At S p P s) (d : D) {m : Int} (hm : m < s.last) : m_Panel_opened [.ref p, d, .int m] S = .err "NoTime" S := by
  have ap := at_p h.cp
  simp -implicitDefEqProofs [m_Panel_opened, g_Panel_opened, ap, nm_behind, h.no hm]
theorem opened_nodoor (h : At S p P s) (d : D) {m : Int} (hm : s.last ≤ m) (hd : ∀ c, m_Panel_need_door [.ref p, d] (S ++ [c]) = .err "NoDoor" (S ++ [c])) : m_Panel_opened [.ref p, d, .int m] S = .err "NoDoor" (S ++ [sC (behF P.pm m s)]) := by
  have ap := at_p h.cp
  have ap1 := at_p (at_old (c := sC (behF P.pm m s)) h.cp)
  simp -implicitDefEqProofs [m_Panel_opened, g_Panel_opened, ap, nm_behind, h.beh hm, ap1, nm_need_door, hd]
theorem opened_asis (h : At S p P s) {d m : Int} (hm : s.last ≤ m) (h1 : 0 ≤ d) (h2 : d < P.pm.h.doors.length) (hw : d ∈ s.wide) : m_Panel_opened [.ref p, .int d, .int m] S = .err "AsIs" (S ++ [sC (behF P.pm m s)]) := by
  have ap := at_p h.cp
  have ap1 := at_p (at_old (c := sC (behF P.pm m s)) h.cp)
  have as1 := at_s (at_new (S := S) (c := sC (behF P.pm m s)))
  have iw := inX_ints (S ++ [sC (behF P.pm m s)]) false d (behF P.pm m s).wide
  rw [decide_eq_true (by rw [beh_wide]; exact hw)] at iw
  simp -implicitDefEqProofs [m_Panel_opened, g_Panel_opened, ap, nm_behind, h.beh hm, ap1, nm_need_door, need_door_ok h h1 h2, as1, iw]
theorem opened_ev (h : At S p P s) {d m : Int} (hm : s.last ≤ m) (h1 : 0 ≤ d) (h2 : d < P.pm.h.doors.length) (hw : d ∉ s.wide) (lw : s.wide.length ≤ 900) :
    m_Panel_opened [.ref p, .int d, .int m] S = .ok (.str (openF P.pm d m s).w.s) (put S p (logF "opened" (.int d) (openF P.pm d m s)) (nextP P "opened" S.length)) := by
  have ap := at_p h.cp
  have bo := behF_ok (m := m) h.ok
  have bl := beh_len h.g m s
  have br : (behF P.pm m s).rows.length ≤ 800 := by rw [beh_rows]; exact h.lw
  have bw := beh_wide P.pm m s
  have bv := h.beh hm
  have nd := need_door_ok h h1 h2
  unfold openF
  rw [← bw] at hw lw
  generalize behF P.pm m s = b at *
  have ap1 := at_p (at_old (c := sC b) h.cp)
  have as1 := at_s (at_new (S := S) (c := sC b))
  have iw := inX_ints (S ++ [sC b]) false d b.wide
  rw [decide_eq_false hw] at iw
  have ga : gAdd (mD b.wide) (.tup [.int d]) (S ++ [sC b]) = some (.tup ((b.wide ++ [d]).map .int)) := by
    unfold mD
    show (if _ then _ else _) = _
    rw [if_pos (lim_small (by simp; omega)), List.map_append]
    rfl
  have so : gSortedY [.tup ((b.wide ++ [d]).map .int)] (S ++ [sC b]) = some (.lst ((isort (b.wide ++ [d])).map .int)) := by
    simp only [gSortedY, ints_map]; rfl
  have gt : gTuple [.lst ((isort (b.wide ++ [d])).map .int)] (S ++ [sC b]) = some (mD (isort (b.wide ++ [d]))) := rfl
  have pw := p_wide b (isort (b.wide ++ [d]))
  have tv := tripped_ev (S := S ++ [sC { b with wide := isort (b.wide ++ [d]) }]) (i := S.length) h.g (at_old h.cp) at_new bo.mode (by show b.rings.length ≤ 900; have := h.lr; omega) true d
  rw [set_new] at tv
  have ar := (atF_mode P.pm true d { b with wide := isort (b.wide ++ [d]) }).2.2.2.2
  have fv := put_ev (s := atF P.pm true d { b with wide := isort (b.wide ++ [d]) }) h.cp (by rw [ar]; show b.rows.length ≤ 900; omega) (by have := h.lg; omega) "opened" (.int d)
  generalize isort (b.wide ++ [d]) = L at *
  generalize (b.wide ++ [d]).map D.int = L2 at *
  have ap2 : ∀ c : Cell, insAt "Panel" (.ref p) (S ++ [c]) = some (p, pF P) := fun c => at_p (at_old h.cp)
  have wd : (wS true) = Str.ofString "door" := rfl
  rw [wd] at tv
  refine mOf_ret ?_
  unfold g_Panel_opened
  refine (seq_next (ρ1 := [some (.dat (.ref p)), some (.dat (.int d)), some (.dat (.int m)), some (.dat (.ref S.length))]) (S1 := S ++ [sC b]) (by simp -implicitDefEqProofs [ap, nm_behind, bv])).trans ?_
  refine (seq_next (ρ1 := [some (.dat (.ref p)), some (.dat (.int d)), some (.dat (.int m)), some (.dat (.ref S.length))]) (S1 := S ++ [sC b]) (by simp -implicitDefEqProofs [ap1, nm_need_door, nd])).trans ?_
  refine (seq_next (ρ1 := [some (.dat (.ref p)), some (.dat (.int d)), some (.dat (.int m)), some (.dat (.ref S.length))]) (S1 := S ++ [sC b]) (by simp -implicitDefEqProofs [as1, iw])).trans ?_
  refine (seq_next (ρ1 := [some (.dat (.ref p)), some (.dat (.int d)), some (.dat (.int m)), some (.dat (.ref S.length))]) (S1 := S ++ [sC { b with wide := L }]) (by simp -implicitDefEqProofs [as1, lim_small, ga, so, gt, pw, set_new, fold_sC])).trans ?_
  simp -implicitDefEqProofs [ap2, nm_tripped, tv, nm_turn_to, fv]
end
end BW
namespace BW
open PySem L2
section
variable {S : Store} {p : Nat} {P : Pc} {s : Sd}
theorem At.ap (h : At S p P s) (c : Cell) : insAt "Panel" (.ref p) (S ++ [c]) = some (p, pF P) := at_p (at_old h.cp)
theorem beqD (x d : Int) : (x == d) = decide (x = d) := by rw [Bool.eq_iff_iff]; simp
theorem closed_notime (h : At S p P s) (d : D) {m : Int} (hm : m < s.last) : m_Panel_closed [.ref p, d, .int m] S = .err "NoTime" S := by
  have ap := at_p h.cp
  simp -implicitDefEqProofs [m_Panel_closed, g_Panel_closed, ap, nm_behind, h.no hm]
theorem closed_nodoor (h : At S p P s) (d : D) {m : Int} (hm : s.last ≤ m) (hd : ∀ c, m_Panel_need_door [.ref p, d] (S ++ [c]) = .err "NoDoor" (S ++ [c])) : m_Panel_closed [.ref p, d, .int m] S = .err "NoDoor" (S ++ [sC (behF P.pm m s)]) := by
  have ap := at_p h.cp
  simp -implicitDefEqProofs [m_Panel_closed, g_Panel_closed, ap, nm_behind, h.beh hm, h.ap, nm_need_door, hd]
theorem closed_asis (h : At S p P s) {d m : Int} (hm : s.last ≤ m) (h1 : 0 ≤ d) (h2 : d < P.pm.h.doors.length) (hw : d ∉ s.wide) : m_Panel_closed [.ref p, .int d, .int m] S = .err "AsIs" (S ++ [sC (behF P.pm m s)]) := by
  have ap := at_p h.cp
  have as1 := at_s (at_new (S := S) (c := sC (behF P.pm m s)))
  have iw := inX_ints (S ++ [sC (behF P.pm m s)]) true d (behF P.pm m s).wide
  rw [decide_eq_false (by rw [beh_wide]; exact hw)] at iw
  simp -implicitDefEqProofs [m_Panel_closed, g_Panel_closed, ap, nm_behind, h.beh hm, h.ap, nm_need_door, need_door_ok h h1 h2, as1, iw]
theorem closed_ev (h : At S p P s) {d m : Int} (hm : s.last ≤ m) (h1 : 0 ≤ d) (h2 : d < P.pm.h.doors.length) (hw : d ∈ s.wide) (lw : s.wide.length ≤ 900) :
    m_Panel_closed [.ref p, .int d, .int m] S = .ok (.str (closeF P.pm d m s).w.s) (put S p (logF "closed" (.int d) (closeF P.pm d m s)) (nextP P "closed" S.length)) := by
  have ap := at_p h.cp
  have br : (behF P.pm m s).rows.length ≤ 800 := by rw [beh_rows]; exact h.lw
  have bw := beh_wide P.pm m s
  have bv := h.beh hm
  have nd := need_door_ok h h1 h2
  unfold closeF
  rw [← bw] at hw lw
  generalize behF P.pm m s = b at *
  have as1 := at_s (at_new (S := S) (c := sC b))
  have iw := inX_ints (S ++ [sC b]) true d b.wide
  rw [decide_eq_true hw] at iw
  have c := compT (e := D.int) (t := tgName 4) (ft := fB (f2 (gEq true) (fV 4) (fV 1))) (fe := fV 4) (ρ := [some (.dat (.ref p)), some (.dat (.int d)), some (.dat (.int m)), some (.dat (.ref S.length)), none]) (S := S ++ [sC b])
    (fun x => !decide (x = d)) D.int (xs := b.wide) (by omega) (fun x _ => ⟨_, rfl, by simp -implicitDefEqProofs [beqD], fun _ => by simp -implicitDefEqProofs⟩)
  have gt : gTuple [.lst ((b.wide.filter fun x => !decide (x = d)).map .int)] (S ++ [sC b]) = some (mD (b.wide.filter fun x => !decide (x = d))) := rfl
  have pw := p_wide b (b.wide.filter fun x => !decide (x = d))
  have fv := put_ev (s := { b with wide := b.wide.filter fun x => !decide (x = d) }) h.cp (by show b.rows.length ≤ 900; omega) (by have := h.lg; omega) "closed" (.int d)
  generalize (b.wide.filter fun x => !decide (x = d)) = L at *
  have lw2 : (sF b).lookup ("wide" : Str) = some (.tup (b.wide.map .int)) := l_wide b
  refine mOf_ret ?_
  unfold g_Panel_closed
  refine (seq_next (ρ1 := [some (.dat (.ref p)), some (.dat (.int d)), some (.dat (.int m)), some (.dat (.ref S.length)), none]) (S1 := S ++ [sC b]) (by simp -implicitDefEqProofs [ap, nm_behind, bv])).trans ?_
  refine (seq_next (ρ1 := [some (.dat (.ref p)), some (.dat (.int d)), some (.dat (.int m)), some (.dat (.ref S.length)), none]) (S1 := S ++ [sC b]) (by simp -implicitDefEqProofs [h.ap, nm_need_door, nd])).trans ?_
  refine (seq_next (ρ1 := [some (.dat (.ref p)), some (.dat (.int d)), some (.dat (.int m)), some (.dat (.ref S.length)), none]) (S1 := S ++ [sC b]) (by simp -implicitDefEqProofs [as1, iw])).trans ?_
  refine (seq_next (ρ1 := [some (.dat (.ref p)), some (.dat (.int d)), some (.dat (.int m)), some (.dat (.ref S.length)), none]) (S1 := S ++ [sC { b with wide := L }]) (by simp -implicitDefEqProofs [as1, -l_wide, lw2, wipeE, c, gt, pw, set_new, fold_sC])).trans ?_
  simp -implicitDefEqProofs [h.ap, nm_turn_to, fv]
def moveF (pm : Pm) (r m : Int) (s : Sd) : Sd := atF pm false r (behF pm m s)
theorem moved_notime (h : At S p P s) (d : D) {m : Int} (hm : m < s.last) : m_Panel_moved [.ref p, d, .int m] S = .err "NoTime" S := by
  have ap := at_p h.cp
  simp -implicitDefEqProofs [m_Panel_moved, g_Panel_moved, ap, nm_behind, h.no hm]
theorem moved_noroom (h : At S p P s) {r m : Int} (hm : s.last ≤ m) (hd : ¬ (1 ≤ r ∧ r < P.pm.h.many)) : m_Panel_moved [.ref p, .int r, .int m] S = .err "NoRoom" (S ++ [sC (behF P.pm m s)]) := by
  have ap := at_p h.cp
  have n := num_ev (S ++ [sC (behF P.pm m s)]) r 1 (P.pm.h.many - 1)
  rw [inB_no (by omega)] at n
  simp -implicitDefEqProofs [m_Panel_moved, g_Panel_moved, ap, nm_behind, h.beh hm, h.ap, n]
theorem moved_ev (h : At S p P s) {r m : Int} (hm : s.last ≤ m) (h1 : 1 ≤ r) (h2 : r < P.pm.h.many) :
    m_Panel_moved [.ref p, .int r, .int m] S = .ok (.str (moveF P.pm r m s).w.s) (put S p (logF "moved" (.int r) (moveF P.pm r m s)) (nextP P "moved" S.length)) := by
  have ap := at_p h.cp
  have bo := behF_ok (m := m) h.ok
  have bl := beh_len h.g m s
  have br : (behF P.pm m s).rows.length ≤ 800 := by rw [beh_rows]; exact h.lw
  have bv := h.beh hm
  unfold moveF
  generalize behF P.pm m s = b at *
  have n := num_ev (S ++ [sC b]) r 1 (P.pm.h.many - 1)
  rw [inB_yes (by omega)] at n
  have tv := tripped_ev (S := S ++ [sC b]) (i := S.length) h.g (at_old h.cp) at_new bo.mode (by have := h.lr; omega) false r
  rw [set_new, show wS false = Str.ofString "room" from rfl] at tv
  have ar := (atF_mode P.pm false r b).2.2.2.2
  have fv := put_ev (s := atF P.pm false r b) h.cp (by rw [ar]; omega) (by have := h.lg; omega) "moved" (.int r)
  simp -implicitDefEqProofs [m_Panel_moved, g_Panel_moved, ap, nm_behind, bv, h.ap, n, nm_tripped, tv, nm_turn_to, fv]
def liftF (pm : Pm) (m : Int) (s : Sd) : Sd := { (if (behF pm m s).w = .ringing then hushF m (behF pm m s) else behF pm m s) with w := .off, fin := none, mode := none, wo := [] }
theorem lift_notime (h : At S p P s) {m : Int} (hm : m < s.last) : m_Panel_lift [.ref p, .int m] S = .err "NoTime" S := by
  have ap := at_p h.cp
  simp -implicitDefEqProofs [m_Panel_lift, g_Panel_lift, ap, nm_behind, h.no hm]
theorem lift_notset (h : At S p P s) {m : Int} (hm : s.last ≤ m) (hw : (behF P.pm m s).w = .off) : m_Panel_lift [.ref p, .int m] S = .err "NotSet" (S ++ [sC (behF P.pm m s)]) := by
  have ap := at_p h.cp
  have as1 := at_s (at_new (S := S) (c := sC (behF P.pm m s)))
  have q := eq_off (S ++ [sC (behF P.pm m s)]) false (behF P.pm m s).w
  rw [decide_eq_true hw] at q
  simp -implicitDefEqProofs [m_Panel_lift, g_Panel_lift, ap, nm_behind, h.beh hm, as1, q]
theorem lift_ev (h : At S p P s) {m : Int} (hm : s.last ≤ m) (hw : (behF P.pm m s).w ≠ .off) :
    m_Panel_lift [.ref p, .int m] S = .ok (.str (behF P.pm m s).w.s) (put S p (logF "lift" .non (liftF P.pm m s)) (nextP P "lift" S.length)) := by
  have ap := at_p h.cp
  have bo := behF_ok (m := m) h.ok
  have bl := beh_len h.g m s
  have br : (behF P.pm m s).rows.length ≤ 800 := by rw [beh_rows]; exact h.lw
  have bv := h.beh hm
  unfold liftF
  generalize behF P.pm m s = b at *
  have as1 := fun s : Sd => at_s (at_new (S := S) (c := sC s))
  have q := eq_off (S ++ [sC b]) false b.w
  rw [decide_eq_false hw] at q
  have qr := eq_ringing (S ++ [sC b]) false b.w
  by_cases c1 : b.w = .ringing
  · rw [decide_eq_true c1] at qr
    rw [if_pos c1]
    have hv := hush_ev (S := S ++ [sC b]) (i := S.length) (at_old h.cp) at_new (by have := h.lr; omega) (bo.bell c1) m
    rw [set_new] at hv
    have fv := put_ev (s := { hushF m b with w := .off, fin := none, mode := none, wo := [] }) h.cp (by show b.rows.length ≤ 900; omega) (by have := h.lg; omega) "lift" .non
    simp -implicitDefEqProofs [m_Panel_lift, g_Panel_lift, ap, nm_behind, bv, as1, q, qr, h.ap, nm_hush, hv, p_off, set_new, fold_sC, p_endN, p_modeN, lim_small, p_withoutN, nm_turn_to, fv]
  · rw [decide_eq_false c1] at qr
    rw [if_neg c1]
    have fv := put_ev (s := { b with w := .off, fin := none, mode := none, wo := [] }) h.cp (by show b.rows.length ≤ 900; omega) (by have := h.lg; omega) "lift" .non
    simp -implicitDefEqProofs [m_Panel_lift, g_Panel_lift, ap, nm_behind, bv, as1, q, qr, h.ap, p_off, set_new, fold_sC, p_endN, p_modeN, lim_small, p_withoutN, nm_turn_to, fv]
end
end BW
namespace BW
open PySem L2
theorem forE {α : Type} {e : α → D} {t : Tgt} {g : Stm} {S : Store} {c : Str} (I : Env → Prop) (bad : α → Bool) : ∀ (xs : List α) (ρ : Env), I ρ →
    (∀ x ∈ xs, ∀ ρ, I ρ → ∃ ρ1, t (e x) ρ = some ρ1 ∧ (bad x = true → ∃ ρ2, g ρ1 S = .err c ρ2 S) ∧ (bad x = false → ∃ ρ2, g ρ1 S = .next ρ2 S ∧ I ρ2)) →
    (xs.any bad = false → ∃ ρ', forL t g (xs.map e) ρ S = .next ρ' S ∧ I ρ') ∧ (xs.any bad = true → ∃ ρ', forL t g (xs.map e) ρ S = .err c ρ' S)
  | [], ρ, h, _ => ⟨fun _ => ⟨ρ, rfl, h⟩, fun z => by cases z⟩
  | x :: xs, ρ, h, hs => by
    obtain ⟨ρ1, e1, e2, e3⟩ := hs x List.mem_cons_self ρ h
    cases hb : bad x with
    | true =>
      obtain ⟨ρ2, e4⟩ := e2 hb
      refine ⟨fun z => ?_, fun _ => ⟨ρ2, ?_⟩⟩
      · rw [List.any_cons, hb] at z; cases z
      · rw [List.map_cons]; simp only [forL, e1, e4]
    | false =>
      obtain ⟨ρ2, e4, h2⟩ := e3 hb
      obtain ⟨k1, k2⟩ := forE I bad xs ρ2 h2 fun y hy => hs y (List.mem_cons_of_mem _ hy)
      rw [List.any_cons, hb, Bool.false_or]
      refine ⟨fun z => ?_, fun z => ?_⟩
      · obtain ⟨ρ', a, b⟩ := k1 z
        exact ⟨ρ', by rw [List.map_cons]; simp only [forL, e1, e4, a], b⟩
      · obtain ⟨ρ', a⟩ := k2 z
        exact ⟨ρ', by rw [List.map_cons]; simp only [forL, e1, e4, a]⟩
def ajarE (h : Hs) (wo wide : List Int) (e : Int) : Bool := !decide (e ∈ wo) && ((eyeAt h e).dr && (decide ((eyeAt h e).how = .soon) && decide ((eyeAt h e).num ∈ wide)))
def ajarB (h : Hs) (mode : Int) (wo wide : List Int) : Bool := (modeAt h mode).any (ajarE h wo wide)
def armF (pm : Pm) (m mode : Int) (wo : List Int) (s : Sd) : Sd := passF pm m { behF pm m s with w := .leaving, fin := some (m + pm.lv), mode := some mode, wo := wo }
section
variable {S : Store} {p : Nat} {P : Pc} {s : Sd}
theorem ajar_ev (g : P.pm.h.Ok) {i : Nat} (hp : S[p]? = some (pC P)) (hs : S[i]? = some (sC s)) {eye : Int} (h1 : 0 ≤ eye) (h2 : eye < P.pm.h.eyes.length) (wo : List Int) (a b x6 x7 x8 : Option Slot) :
    b_Panel_arm_1 [some (.dat (.ref p)), a, b, some (.dat (mD wo)), some (.dat (.ref i)), some (.dat (.int eye)), x6, x7, x8] S = (if ajarE P.pm.h wo s.wide eye = true then Out.err "Ajar" else Out.next) [some (.dat (.ref p)), a, b, some (.dat (mD wo)), some (.dat (.ref i)), some (.dat (.int eye)), some (.dat (.str (wS (eyeAt P.pm.h eye).dr))), some (.dat (.int (eyeAt P.pm.h eye).num)), some (.dat (.str (eyeAt P.pm.h eye).how.s))] S := by
  have ap := at_p hp
  have as := at_s hs
  have ix := ix_eye S h1 h2
  rw [eyeD] at ix
  have qd := eq_door S false (eyeAt P.pm.h eye).dr
  have qs := eq_soon S false (eyeAt P.pm.h eye).how
  have iw := inX_ints S false (eyeAt P.pm.h eye).num s.wide
  have io := inX_ints S true eye wo
  simp only [Bool.false_xor, Bool.true_xor] at qd qs iw io
  unfold ajarE
  generalize eyeAt P.pm.h eye = e at *
  generalize decide (eye ∈ wo) = b1 at *
  generalize e.dr = b2 at *
  generalize decide (e.how = How.soon) = b3 at *
  generalize decide (e.num ∈ s.wide) = b4 at *
  cases b1 <;> cases b2 <;> cases b3 <;> cases b4 <;> simp -implicitDefEqProofs [b_Panel_arm_1, ap, ix, io, qd, qs, as, iw]
theorem arm_notime (h : At S p P s) (x y : D) {m : Int} (hm : m < s.last) : m_Panel_arm [.ref p, .int m, x, y] S = .err "NoTime" S := by
  have ap := at_p h.cp
  simp -implicitDefEqProofs [m_Panel_arm, g_Panel_arm, ap, nm_behind, h.no hm]
theorem arm_nomode (h : At S p P s) {x : D} (y : D) {m : Int} (hm : s.last ≤ m) (hx : ∀ S, m_need_mode [hD P.pm.h, x] S = .err "NoMode" S) : m_Panel_arm [.ref p, .int m, x, y] S = .err "NoMode" (S ++ [sC (behF P.pm m s)]) := by
  have ap := at_p h.cp
  simp -implicitDefEqProofs [m_Panel_arm, g_Panel_arm, ap, nm_behind, h.beh hm, h.ap, hx]
theorem arm_noeye (h : At S p P s) {mode : Int} {y : D} {m : Int} (hm : s.last ≤ m) (h1 : 0 ≤ mode) (h2 : mode < P.pm.h.modes.length) (hy : ∀ S, m_is_mode [y, .int (P.pm.h.eyes.length : Int)] S = .ok (.bl false) S) : m_Panel_arm [.ref p, .int m, .int mode, y] S = .err "NoEye" (S ++ [sC (behF P.pm m s)]) := by
  have ap := at_p h.cp
  simp -implicitDefEqProofs [m_Panel_arm, g_Panel_arm, ap, nm_behind, h.beh hm, h.ap, need_mode_ok _ h1 h2, hy]
theorem arm_notoff (h : At S p P s) {mode : Int} {wo : List Int} {m : Int} (hm : s.last ≤ m) (h1 : 0 ≤ mode) (h2 : mode < P.pm.h.modes.length) (hw : modeOk P.pm.h.eyes.length wo) (ho : (behF P.pm m s).w ≠ .off) : m_Panel_arm [.ref p, .int m, .int mode, mD wo] S = .err "NotOff" (S ++ [sC (behF P.pm m s)]) := by
  have ap := at_p h.cp
  have as1 := at_s (at_new (S := S) (c := sC (behF P.pm m s)))
  have q := eq_off (S ++ [sC (behF P.pm m s)]) true (behF P.pm m s).w
  rw [decide_eq_false ho] at q
  have md := mode_ev (S ++ [sC (behF P.pm m s)]) P.pm.h.eyes.length wo (by have := modes_len hw; have := h.g.ne; omega)
  rw [decide_eq_true hw] at md
  simp -implicitDefEqProofs [m_Panel_arm, g_Panel_arm, ap, nm_behind, h.beh hm, h.ap, need_mode_ok _ h1 h2, md, as1, q]
theorem arm_pre (h : At S p P s) {mode : Int} {wo : List Int} {m : Int} (h1 : 0 ≤ mode) (h2 : mode < P.pm.h.modes.length) (b : Sd) :
    (ajarB P.pm.h mode wo b.wide = false → ∃ x5 x6 x7 x8, forL (tgName 5) b_Panel_arm_1 ((modeAt P.pm.h mode).map .int) [some (.dat (.ref p)), some (.dat (.int m)), some (.dat (.int mode)), some (.dat (mD wo)), some (.dat (.ref S.length)), none, none, none, none] (S ++ [sC b]) = .next [some (.dat (.ref p)), some (.dat (.int m)), some (.dat (.int mode)), some (.dat (mD wo)), some (.dat (.ref S.length)), x5, x6, x7, x8] (S ++ [sC b])) ∧
    (ajarB P.pm.h mode wo b.wide = true → ∃ ρ', forL (tgName 5) b_Panel_arm_1 ((modeAt P.pm.h mode).map .int) [some (.dat (.ref p)), some (.dat (.int m)), some (.dat (.int mode)), some (.dat (mD wo)), some (.dat (.ref S.length)), none, none, none, none] (S ++ [sC b]) = .err "Ajar" ρ' (S ++ [sC b])) := by
  have mo := h.g.modes _ (mode_mem h1 h2)
  have := forE (e := D.int) (t := tgName 5) (g := b_Panel_arm_1) (S := S ++ [sC b]) (c := "Ajar") (fun ρ => ∃ x5 x6 x7 x8, ρ = [some (.dat (.ref p)), some (.dat (.int m)), some (.dat (.int mode)), some (.dat (mD wo)), some (.dat (.ref S.length)), x5, x6, x7, x8]) (ajarE P.pm.h wo b.wide) (modeAt P.pm.h mode) _ ⟨none, none, none, none, rfl⟩ (fun x hx ρ ⟨x5, x6, x7, x8, hρ⟩ => by
    subst hρ
    have xi := mo.1 x hx
    have ev := ajar_ev (S := S ++ [sC b]) (i := S.length) h.g (at_old h.cp) at_new xi.1 xi.2 wo (some (.dat (.int m))) (some (.dat (.int mode))) x6 x7 x8
    refine ⟨_, rfl, fun hb => ?_, fun hb => ?_⟩
    · rw [hb, if_pos rfl] at ev; exact ⟨_, ev⟩
    · rw [hb, if_neg Bool.false_ne_true] at ev; exact ⟨_, ev, ⟨_, _, _, _, rfl⟩⟩)
  refine ⟨fun z => ?_, this.2⟩
  obtain ⟨ρ', a, x5, x6, x7, x8, rfl⟩ := this.1 z
  exact ⟨x5, x6, x7, x8, a⟩
theorem arm_ajar (h : At S p P s) {mode : Int} {wo : List Int} {m : Int} (hm : s.last ≤ m) (h1 : 0 ≤ mode) (h2 : mode < P.pm.h.modes.length) (hw : modeOk P.pm.h.eyes.length wo) (ho : (behF P.pm m s).w = .off) (ha : ajarB P.pm.h mode wo s.wide = true) : m_Panel_arm [.ref p, .int m, .int mode, mD wo] S = .err "Ajar" (S ++ [sC (behF P.pm m s)]) := by
  have ap := at_p h.cp
  have as1 := at_s (at_new (S := S) (c := sC (behF P.pm m s)))
  have q := eq_off (S ++ [sC (behF P.pm m s)]) true (behF P.pm m s).w
  rw [decide_eq_true ho] at q
  have md := mode_ev (S ++ [sC (behF P.pm m s)]) P.pm.h.eyes.length wo (by have := modes_len hw; have := h.g.ne; omega)
  rw [decide_eq_true hw] at md
  obtain ⟨ρ', fa⟩ := (arm_pre h (m := m) h1 h2 (behF P.pm m s)).2 (by rw [beh_wide]; exact ha)
  have ixm : gIx (.tup (P.pm.h.modes.map mD)) (.int mode) (S ++ [sC (behF P.pm m s)]) = some (.tup ((modeAt P.pm.h mode).map .int)) := ix_mode _ h1 h2
  simp -implicitDefEqProofs [m_Panel_arm, g_Panel_arm, ap, nm_behind, h.beh hm, h.ap, need_mode_ok _ h1 h2, md, as1, q, ixm, fa]
theorem arm_ev (h : At S p P s) {mode : Int} {wo : List Int} {m : Int} (hm : s.last ≤ m) (h1 : 0 ≤ mode) (h2 : mode < P.pm.h.modes.length) (hw : modeOk P.pm.h.eyes.length wo) (ho : (behF P.pm m s).w = .off) (ha : ajarB P.pm.h mode wo s.wide = false) :
    m_Panel_arm [.ref p, .int m, .int mode, mD wo] S = .ok (.str (armF P.pm m mode wo s).w.s) (put S p (logF "arm" (.tup [.int mode, mD wo]) (armF P.pm m mode wo s)) (nextP P "arm" S.length)) := by
  have ap := at_p h.cp
  have bo := behF_ok (m := m) h.ok
  have bl := beh_len h.g m s
  have lr := h.lr
  have br : (behF P.pm m s).rows.length ≤ 800 := by rw [beh_rows]; exact h.lw
  have bv := h.beh hm
  rw [← beh_wide P.pm m s] at ha
  unfold armF
  generalize behF P.pm m s = b at *
  have as1 := at_s (at_new (S := S) (c := sC b))
  have q := eq_off (S ++ [sC b]) true b.w
  rw [decide_eq_true ho] at q
  have md := mode_ev (S ++ [sC b]) P.pm.h.eyes.length wo (by have := modes_len hw; have := h.g.ne; omega)
  rw [decide_eq_true hw] at md
  obtain ⟨x5, x6, x7, x8, fa⟩ := (arm_pre h (m := m) h1 h2 b).1 ha
  have ixm : gIx (.tup (P.pm.h.modes.map mD)) (.int mode) (S ++ [sC b]) = some (.tup ((modeAt P.pm.h mode).map .int)) := ix_mode _ h1 h2
  have ok2 : Sd.Ok P.pm { b with w := .leaving, fin := some (m + P.pm.lv), mode := some mode, wo := wo } := ⟨fun z => (by rcases z with z | z <;> cases z), fun _ => ⟨_, rfl⟩, fun z => (by cases z), fun z => (by cases z), fun k hk => by cases hk; exact ⟨h1, h2⟩⟩
  have pv := pass_ev (t := fAnd (fB (f2 (gIs true) (fFld "Stand" "end" (fV 4)) (fC .non))) (fB (f2 gLe (fFld "Stand" "end" (fV 4)) (fV 1)))) (b := b_Panel_arm_2) h.g m [some (.dat (.ref p)), some (.dat (.int m)), some (.dat (.int mode)), some (.dat (mD wo)), some (.dat (.ref S.length)), x5, x6, x7, x8] p S.length (S ++ [sC { b with w := .leaving, fin := some (m + P.pm.lv), mode := some mode, wo := wo }]) (at_old h.cp)
    (fun S' s' h' => due_ev rfl rfl S' s' h') (fun S' s' hp' hs' ok' hl' f hf => by
      have tv := turn_ev h.g hp' hs' ok' hl' hf
      have ap' := at_p hp'
      simp -implicitDefEqProofs [b_Panel_arm_2, ap', nm_turn, tv]) 4 _ ok2 (by simp [mu]) (by show b.rings.length ≤ _; omega) (by omega) at_new 995
  rw [set_new] at pv
  have e1 : sWhile (fAnd (fB (f2 (gIs true) (fFld "Stand" "end" (fV 4)) (fC .non))) (fB (f2 gLe (fFld "Stand" "end" (fV 4)) (fV 1)))) b_Panel_arm_2 [some (.dat (.ref p)), some (.dat (.int m)), some (.dat (.int mode)), some (.dat (mD wo)), some (.dat (.ref S.length)), x5, x6, x7, x8] (S ++ [sC { b with w := .leaving, fin := some (m + P.pm.lv), mode := some mode, wo := wo }]) = _ := pv
  have pr := (pass_mode P.pm m { b with w := .leaving, fin := some (m + P.pm.lv), mode := some mode, wo := wo }).2.2.2.2
  have fv := put_ev (s := passF P.pm m { b with w := .leaving, fin := some (m + P.pm.lv), mode := some mode, wo := wo }) h.cp (by rw [pr]; show b.rows.length ≤ 900; omega) (by have := h.lg; omega) "arm" (.tup [.int mode, mD wo])
  have e2 : goF P.pm m 4 { b with w := .leaving, fin := some (m + P.pm.lv), mode := some mode, wo := wo } = passF P.pm m { b with w := .leaving, fin := some (m + P.pm.lv), mode := some mode, wo := wo } := rfl
  rw [e2] at e1
  generalize passF P.pm m { b with w := .leaving, fin := some (m + P.pm.lv), mode := some mode, wo := wo } = c at *
  have as2 := fun s : Sd => at_s (at_new (S := S) (c := sC s))
  simp -implicitDefEqProofs [m_Panel_arm, g_Panel_arm, ap, nm_behind, bv, h.ap, need_mode_ok _ h1 h2, md, as2, q, ixm, fa, p_leaving, p_endI, p_modeI, p_without, set_new, fold_sC, e1, lim_small, nm_turn_to, fv]
end
end BW
namespace BW
open PySem L2
def cR (s : Sd) : Nat := s.rings.length + (if s.w = .ringing then 0 else 1)
theorem cR_len (s : Sd) : s.rings.length ≤ cR s := Nat.le_add_right _ _
theorem cR_ring (pm : Pm) (e m : Int) (s : Sd) : cR (ringF pm e m s) = cR s := by
  unfold ringF cR
  by_cases h : s.w = .ringing
  · simp [h]
  · simp [h]
theorem cR_trip (pm : Pm) (e m : Int) (s : Sd) : cR (tripF pm e m s) = cR s := by
  unfold tripF
  split
  · exact cR_ring _ _ _ _
  · split
    · split
      · rename_i h
        simp [cR, h.1]
      · split
        · exact cR_ring _ _ _ _
        · rfl
    · rfl
theorem cR_fold (pm : Pm) (m : Int) : ∀ (l : List Int) (s : Sd), cR (l.foldl (wideF pm m) s) = cR s
  | [], s => rfl
  | x :: l, s => by
    rw [List.foldl_cons, cR_fold pm m l]
    unfold wideF
    split
    · exact cR_trip _ _ _ _
    · rfl
theorem cR_turn (pm : Pm) (m : Int) {s : Sd} (h : s.Ok pm) : cR (turnF pm m s) ≤ cR s + (if s.w = .ringing then 1 else 0) := by
  unfold turnF
  split
  · rw [cR_ring]; omega
  · split
    · rename_i h1 h2
      by_cases hm : s.mode = none <;> simp [cR, hushF, hushL_len, h2, hm]
    · rename_i h1 h2
      rw [cR_fold]
      simp [cR, h2]
theorem cR_go (pm : Pm) (m : Int) : ∀ (n : Nat) {s : Sd}, s.Ok pm → cR (goF pm m n s) ≤ cR s + 1 ∧ (s.fin = none → cR (goF pm m n s) = cR s)
  | 0, s, _ => ⟨Nat.le_succ _, fun _ => rfl⟩
  | n + 1, s, h => by
    have nd : s.fin = none → due m s = false := fun e => by unfold due; rw [e]
    unfold goF
    refine ⟨?_, fun e => by rw [nd e]; rfl⟩
    split
    · rename_i hd
      have ih := cR_go pm m n (turnF_ok (m := s.fin.getD 0) h)
      have ct := cR_turn pm (s.fin.getD 0) h
      by_cases hr : s.w = .ringing
      · rw [if_pos hr] at ct
        have : (turnF pm (s.fin.getD 0) s).fin = none := by
          unfold turnF
          rw [if_neg (by rw [hr]; decide), if_pos hr]
        have := ih.2 this
        omega
      · rw [if_neg hr] at ct
        have := ih.1
        omega
    · omega
theorem cR_pass (pm : Pm) (m : Int) {s : Sd} (h : s.Ok pm) : cR (passF pm m s) ≤ cR s + 1 := (cR_go pm m 4 h).1
theorem cR_beh (pm : Pm) (m : Int) {s : Sd} (h : s.Ok pm) : cR (behF pm m s) ≤ cR s + 1 := cR_pass pm m h
theorem cR_at (pm : Pm) (b : Bool) (n : Int) (s : Sd) : cR (atF pm b n s) = cR s := by
  unfold atF
  split
  · rfl
  · exact cR_trip _ _ _ _
theorem cR_open (pm : Pm) (d m : Int) {s : Sd} (h : s.Ok pm) : cR (openF pm d m s) ≤ cR s + 1 := by
  unfold openF
  rw [cR_at]
  exact cR_beh pm m h
theorem cR_close (pm : Pm) (d m : Int) {s : Sd} (h : s.Ok pm) : cR (closeF pm d m s) ≤ cR s + 1 := cR_beh pm m h
theorem cR_move (pm : Pm) (d m : Int) {s : Sd} (h : s.Ok pm) : cR (moveF pm d m s) ≤ cR s + 1 := by
  unfold moveF
  rw [cR_at]
  exact cR_beh pm m h
theorem cR_lift (pm : Pm) (m : Int) {s : Sd} (h : s.Ok pm) : cR (liftF pm m s) ≤ cR s + 2 := by
  have b := cR_beh pm m h
  unfold liftF
  by_cases hr : (behF pm m s).w = .ringing
  · rw [if_pos hr]
    simp only [cR, hushF, hushL_len]
    simp only [cR, hr, if_true] at b
    simp
    simp [cR] at b ⊢
    omega
  · rw [if_neg hr]
    simp only [cR, hr, if_false] at b ⊢
    simp [cR] at b ⊢
    omega
theorem cR_arm (pm : Pm) (m k : Int) (wo : List Int) {s : Sd} (h : s.Ok pm) (hk : 0 ≤ k ∧ k < pm.h.modes.length) : cR (armF pm m k wo s) ≤ cR s + 3 := by
  have b := cR_beh pm m h
  unfold armF
  have ok2 : Sd.Ok pm { behF pm m s with w := .leaving, fin := some (m + pm.lv), mode := some k, wo := wo } := ⟨fun z => (by rcases z with z | z <;> cases z), fun _ => ⟨_, rfl⟩, fun z => (by cases z), fun z => (by cases z), fun j hj => by cases hj; exact hk⟩
  have c := cR_pass pm m ok2
  have : cR { behF pm m s with w := .leaving, fin := some (m + pm.lv), mode := some k, wo := wo } ≤ cR (behF pm m s) + 1 := by
    simp only [cR]
    rw [if_neg (by decide)]
    split <;> omega
  omega
theorem openF_ok {pm : Pm} {d m : Int} {s : Sd} (h : s.Ok pm) : (openF pm d m s).Ok pm := by
  have := behF_ok (m := m) h
  exact atF_ok ⟨this.idle, this.busy, this.bell, this.why, this.mode⟩
theorem closeF_ok {pm : Pm} {d m : Int} {s : Sd} (h : s.Ok pm) : (closeF pm d m s).Ok pm := by
  have := behF_ok (m := m) h
  exact ⟨this.idle, this.busy, this.bell, this.why, this.mode⟩
theorem moveF_ok {pm : Pm} {d m : Int} {s : Sd} (h : s.Ok pm) : (moveF pm d m s).Ok pm := atF_ok (behF_ok h)
theorem liftF_ok {pm : Pm} {m : Int} {s : Sd} : (liftF pm m s).Ok pm := ⟨fun _ => rfl, fun z => (by rcases z with z | z | z <;> cases z), fun z => (by cases z), fun z => (by cases z), fun _ z => (by cases z)⟩
theorem armF_ok {pm : Pm} {m k : Int} {wo : List Int} {s : Sd} (hk : 0 ≤ k ∧ k < pm.h.modes.length) : (armF pm m k wo s).Ok pm :=
  pass_ok ⟨fun z => (by rcases z with z | z <;> cases z), fun _ => ⟨_, rfl⟩, fun z => (by cases z), fun z => (by cases z), fun j hj => by cases hj; exact hk⟩
theorem logF_ok {pm : Pm} {w : Str} {d : D} {s : Sd} (h : s.Ok pm) : (logF w d s).Ok pm := ⟨h.idle, h.busy, h.bell, h.why, h.mode⟩
theorem cR_log (w : Str) (d : D) (s : Sd) : cR (logF w d s) = cR s := rfl
section
variable {S : Store} {p : Nat} {P P' : Pc} {s s' : Sd}
theorem put_len : (put S p s' P').length = S.length + 1 := by simp [put]
theorem put_p (h : S[p]? = some (pC P)) : (put S p s' P')[p]? = some (pC P') := by
  unfold put
  rw [List.getElem?_set_self (by have := lt_of_at h; simp; omega)]
theorem put_new (h : S[p]? = some (pC P)) : (put S p s' P')[S.length]? = some (sC s') := by
  unfold put
  rw [List.getElem?_set_ne (by have := lt_of_at h; omega)]
  simp
theorem put_old {j : Nat} (hj : j < S.length) (hn : j ≠ p) : (put S p s' P')[j]? = S[j]? := by
  unfold put
  rw [List.getElem?_set_ne (Ne.symm hn), List.getElem?_append_left hj]
theorem At.put (h : At S p P s) {w : Str} (ok : s'.Ok P.pm) (lr : s'.rings.length ≤ 600) (lw : s'.rows.length ≤ 800) (lg : P.gone.length ≤ 799) : At (put S p s' (nextP P w S.length)) p (nextP P w S.length) s' :=
  ⟨h.g, put_p h.cp, put_new h.cp, ok, lr, lw, by show (P.gone ++ [_]).length ≤ 800; simp; omega⟩
theorem clock_ev (h : At S p P s) : m_Panel_clock [.ref p] S = .ok (.int s.last) S := by
  simp -implicitDefEqProofs [m_Panel_clock, g_Panel_clock, at_p h.cp, at_s h.cs]
theorem log_ev (h : At S p P s) : m_Panel_log [.ref p] S = .ok (.lst s.rows) S := by
  simp -implicitDefEqProofs [m_Panel_log, g_Panel_log, at_p h.cp, at_s h.cs, gList]
def pc0 (pm : Pm) (n : Nat) : Pc := ⟨pm, n, [], []⟩
theorem init_ev {pm : Pm} (g : pm.h.Ok) : m_Panel_init [.ref S.length, hD pm.h, .int pm.lv, .int pm.en, .int pm.rg] (S ++ [.ins "Panel" []]) = .ok .non (S ++ [pC (pc0 pm (S.length + 1)), sC sd0]) := by
  have nh := need_house_ok (S ++ [.ins "Panel" []]) g
  have si := fun fs : List (Str × D) => stand_init (S := S ++ [.ins "Panel" fs])
  simp only [List.length_append, List.length_cons, List.length_nil, Nat.zero_add, List.append_assoc, List.cons_append, List.nil_append] at si
  have i2 : ∀ (fs : List (Str × D)) (c : Cell), insAt "Panel" (.ref S.length) (S ++ [.ins "Panel" fs, c]) = some (S.length, fs) := fun fs c => by simp [insAt]
  have s2 : ∀ c d e : Cell, (S ++ [c, d]).set S.length e = S ++ [e, d] := fun c d e => by simp
  simp -implicitDefEqProofs [m_Panel_init, g_Panel_init, nh, ins_new, set_new, putFD, si, i2, s2, lim_small, pC, pF, pc0]
theorem made_at {pm : Pm} (g : pm.h.Ok) : At (S ++ [pC (pc0 pm (S.length + 1)), sC sd0]) S.length (pc0 pm (S.length + 1)) sd0 :=
  ⟨g, by simp, by simp [pc0], ⟨fun _ => rfl, fun z => (by rcases z with z | z | z <;> cases z), fun z => (by cases z), fun z => (by cases z), fun _ z => (by cases z)⟩, by simp [sd0], by simp [sd0], by simp [pc0]⟩
theorem twin_ev (h : At S p P s) : m_Panel_twin [.ref p] S = .ok (.ref S.length) (S ++ [pC P, sC sd0]) := by
  have iv := init_ev (S := S) (pm := P.pm) h.g
  have ap1 : ∀ c d : Cell, insAt "Panel" (.ref p) (S ++ [c, d]) = some (p, pF P) := fun c d => at_p (by rw [List.getElem?_append_left (lt_of_at h.cp)]; exact h.cp)
  have i2 : ∀ (Q : Pc) (c : Cell), insAt "Panel" (.ref S.length) (S ++ [pC Q, c]) = some (S.length, pF Q) := fun Q c => at_p (by simp)
  have s2 : ∀ c d e : Cell, (S ++ [c, d]).set S.length e = S ++ [e, d] := fun c d e => by simp
  have e : pC { pc0 P.pm (S.length + 1) with here := P.here, gone := P.gone, coming := P.coming } = pC P := rfl
  simp -implicitDefEqProofs [m_Panel_twin, g_Panel_twin, at_p h.cp, iv, ap1, i2, s2, p_here, p_gone, p_coming, fold_pC, gList]
  simpa [pc0] using e
end
end BW
namespace BW
open PySem L2
def Keep (p : Nat) (S S' : Store) : Prop := S.length ≤ S'.length ∧ ∀ j, j < S.length → j ≠ p → S'[j]? = S[j]?
theorem Keep.refl (p : Nat) (S : Store) : Keep p S S := ⟨Nat.le_refl _, fun _ _ _ => rfl⟩
theorem Keep.trans {p : Nat} {S S1 S2 : Store} (a : Keep p S S1) (b : Keep p S1 S2) : Keep p S S2 := ⟨Nat.le_trans a.1 b.1, fun j hj hn => (b.2 j (Nat.lt_of_lt_of_le hj a.1) hn).trans (a.2 j hj hn)⟩
theorem keep_put {S : Store} {p : Nat} {P : Pc} {s : Sd} : Keep p S (put S p s P) := ⟨by rw [put_len]; omega, fun j hj hn => put_old hj hn⟩
/-- what only grows -/
def Grow (S S' : Store) : Prop := S.length ≤ S'.length ∧ ∀ j, j < S.length → S'[j]? = S[j]?
theorem grow_app {S : Store} (l : Store) : Grow S (S ++ l) := ⟨by simp, fun j hj => List.getElem?_append_left hj⟩
theorem At.keep {S S' : Store} {p q : Nat} {P Q : Pc} {u : Sd} (h : At S q Q u) (k : Keep p S S') (hq : q ≠ p) (hp : S[p]? = some (pC P)) : At S' q Q u := by
  refine ⟨h.g, by rw [k.2 q (lt_of_at h.cp) hq]; exact h.cp, ?_, h.ok, h.lr, h.lw, h.lg⟩
  rw [k.2 Q.here (lt_of_at h.cs)]
  · exact h.cs
  · intro e
    have := h.cs
    rw [e, hp] at this
    simp [pC, sC] at this
theorem At.grow {S S' : Store} {q : Nat} {Q : Pc} {u : Sd} (h : At S q Q u) (k : Grow S S') : At S' q Q u :=
  ⟨h.g, by rw [k.2 q (lt_of_at h.cp)]; exact h.cp, by rw [k.2 Q.here (lt_of_at h.cs)]; exact h.cs, h.ok, h.lr, h.lw, h.lg⟩
end BW
namespace BW
open PySem L2
section
variable {S : Store} {p : Nat} {P : Pc} {s : Sd}
/-- a step was done -/
structure Did (S : Store) (p : Nat) (P : Pc) (S' : Store) (P' : Pc) (s' : Sd) : Prop where
  at' : At S' p P' s'
  keep : Keep p S S'
  pm : P'.pm = P.pm
  gone : P'.gone = P.gone ++ [((P'.gone.getLast?).map (·.1) |>.getD Str.empty, P.here)]
  coming : P'.coming = []
  len : P'.gone.length = P.gone.length + 1
theorem did_put (h : At S p P s) {w : Str} {s' : Sd} (ok : s'.Ok P.pm) (lr : s'.rings.length ≤ 600) (lw : s'.rows.length ≤ 800) (lg : P.gone.length ≤ 799) : Did S p P (put S p s' (nextP P w S.length)) (nextP P w S.length) s' :=
  ⟨h.put ok lr lw lg, keep_put, rfl, by simp [nextP], rfl, by simp [nextP]⟩
theorem log_len (w : Str) (d : D) (s : Sd) : (logF w d s).rows.length = s.rows.length + 1 := by simp [logF]
theorem At.wait (h : At S p P s) {m : Int} (hm : s.last ≤ m) (c : cR s ≤ 500) (w : s.rows.length ≤ 700) (g : P.gone.length ≤ 700) :
    ∃ S' P', m_Panel_wait [.ref p, .int m] S = .ok (.str (behF P.pm m s).w.s) S' ∧ Did S p P S' P' (logF "wait" .non (behF P.pm m s)) :=
  ⟨_, _, wait_ev h hm, did_put h (logF_ok (behF_ok h.ok)) (by have := cR_beh P.pm m h.ok; have := cR_len (behF P.pm m s); show (behF P.pm m s).rings.length ≤ 600; omega) (by rw [log_len, beh_rows]; omega) (by omega)⟩
theorem openF_rows (pm : Pm) (d m : Int) (s : Sd) : (openF pm d m s).rows = s.rows := (atF_mode pm true d _).2.2.2.2.trans (beh_rows pm m s)
theorem moveF_rows (pm : Pm) (d m : Int) (s : Sd) : (moveF pm d m s).rows = s.rows := (atF_mode pm false d _).2.2.2.2.trans (beh_rows pm m s)
theorem liftF_rows (pm : Pm) (m : Int) (s : Sd) : (liftF pm m s).rows = s.rows := by
  have := beh_rows pm m s
  unfold liftF
  split <;> exact this
theorem armF_rows (pm : Pm) (m k : Int) (wo : List Int) (s : Sd) : (armF pm m k wo s).rows = s.rows := (pass_mode pm m _).2.2.2.2.trans (beh_rows pm m s)
theorem At.opened (h : At S p P s) {d m : Int} (hm : s.last ≤ m) (h1 : 0 ≤ d) (h2 : d < P.pm.h.doors.length) (hw : d ∉ s.wide) (lw : s.wide.length ≤ 900) (c : cR s ≤ 500) (w : s.rows.length ≤ 700) (g : P.gone.length ≤ 700) :
    ∃ S' P', m_Panel_opened [.ref p, .int d, .int m] S = .ok (.str (openF P.pm d m s).w.s) S' ∧ Did S p P S' P' (logF "opened" (.int d) (openF P.pm d m s)) :=
  ⟨_, _, opened_ev h hm h1 h2 hw lw, did_put h (logF_ok (openF_ok h.ok)) (by have := cR_open P.pm d m h.ok; have := cR_len (openF P.pm d m s); show (openF P.pm d m s).rings.length ≤ 600; omega) (by rw [log_len, openF_rows]; omega) (by omega)⟩
theorem At.closed (h : At S p P s) {d m : Int} (hm : s.last ≤ m) (h1 : 0 ≤ d) (h2 : d < P.pm.h.doors.length) (hw : d ∈ s.wide) (lw : s.wide.length ≤ 900) (c : cR s ≤ 500) (w : s.rows.length ≤ 700) (g : P.gone.length ≤ 700) :
    ∃ S' P', m_Panel_closed [.ref p, .int d, .int m] S = .ok (.str (closeF P.pm d m s).w.s) S' ∧ Did S p P S' P' (logF "closed" (.int d) (closeF P.pm d m s)) :=
  ⟨_, _, closed_ev h hm h1 h2 hw lw, did_put h (logF_ok (closeF_ok h.ok)) (by have := cR_close P.pm d m h.ok; have := cR_len (closeF P.pm d m s); show (closeF P.pm d m s).rings.length ≤ 600; omega) (by rw [log_len]; show (behF P.pm m s).rows.length + 1 ≤ _; rw [beh_rows]; omega) (by omega)⟩
theorem At.moved (h : At S p P s) {d m : Int} (hm : s.last ≤ m) (h1 : 1 ≤ d) (h2 : d < P.pm.h.many) (c : cR s ≤ 500) (w : s.rows.length ≤ 700) (g : P.gone.length ≤ 700) :
    ∃ S' P', m_Panel_moved [.ref p, .int d, .int m] S = .ok (.str (moveF P.pm d m s).w.s) S' ∧ Did S p P S' P' (logF "moved" (.int d) (moveF P.pm d m s)) :=
  ⟨_, _, moved_ev h hm h1 h2, did_put h (logF_ok (moveF_ok h.ok)) (by have := cR_move P.pm d m h.ok; have := cR_len (moveF P.pm d m s); show (moveF P.pm d m s).rings.length ≤ 600; omega) (by rw [log_len, moveF_rows]; omega) (by omega)⟩
theorem At.lift (h : At S p P s) {m : Int} (hm : s.last ≤ m) (hw : (behF P.pm m s).w ≠ .off) (c : cR s ≤ 500) (w : s.rows.length ≤ 700) (g : P.gone.length ≤ 700) :
    ∃ S' P', m_Panel_lift [.ref p, .int m] S = .ok (.str (behF P.pm m s).w.s) S' ∧ Did S p P S' P' (logF "lift" .non (liftF P.pm m s)) :=
  ⟨_, _, lift_ev h hm hw, did_put h (logF_ok liftF_ok) (by have := cR_lift P.pm m h.ok; have := cR_len (liftF P.pm m s); show (liftF P.pm m s).rings.length ≤ 600; omega) (by rw [log_len, liftF_rows]; omega) (by omega)⟩
theorem At.arm (h : At S p P s) {mode : Int} {wo : List Int} {m : Int} (hm : s.last ≤ m) (h1 : 0 ≤ mode) (h2 : mode < P.pm.h.modes.length) (hw : modeOk P.pm.h.eyes.length wo) (ho : (behF P.pm m s).w = .off) (ha : ajarB P.pm.h mode wo s.wide = false) (c : cR s ≤ 500) (w : s.rows.length ≤ 700) (g : P.gone.length ≤ 700) :
    ∃ S' P', m_Panel_arm [.ref p, .int m, .int mode, mD wo] S = .ok (.str (armF P.pm m mode wo s).w.s) S' ∧ Did S p P S' P' (logF "arm" (.tup [.int mode, mD wo]) (armF P.pm m mode wo s)) :=
  ⟨_, _, arm_ev h hm h1 h2 hw ho ha, did_put h (logF_ok (armF_ok ⟨h1, h2⟩)) (by have := cR_arm P.pm m mode wo h.ok ⟨h1, h2⟩; have := cR_len (armF P.pm m mode wo s); show (armF P.pm m mode wo s).rings.length ≤ 600; omega) (by rw [log_len, armF_rows]; omega) (by omega)⟩
/-- a twin stands at a new place -/
theorem At.twin (h : At S p P s) : ∃ S', m_Panel_twin [.ref p] S = .ok (.ref S.length) S' ∧ At S' S.length P s ∧ Grow S S' ∧ S'.length = S.length + 2 := by
  refine ⟨_, twin_ev h, ⟨h.g, by simp, ?_, h.ok, h.lr, h.lw, h.lg⟩, grow_app _, by simp⟩
  rw [List.getElem?_append_left (lt_of_at h.cs)]
  exact h.cs
end
section
variable (P : Pc)
theorem nm_arm : (pF P).lookup ("arm" : Str) = none := no_meth P (by simp)
theorem nm_lift : (pF P).lookup ("lift" : Str) = none := no_meth P (by simp)
theorem nm_wait : (pF P).lookup ("wait" : Str) = none := no_meth P (by simp)
theorem nm_clock : (pF P).lookup ("clock" : Str) = none := no_meth P (by simp)
theorem nm_log : (pF P).lookup ("log" : Str) = none := no_meth P (by simp)
theorem nm_twin : (pF P).lookup ("twin" : Str) = none := no_meth P (by simp)
end
/-- the class of what is compared -/
@[simp] theorem ok_rgD (n : Nat) (r : Ring) : okD (n + 1) (rgD r) = true := by
  obtain ⟨a, b, c⟩ := r
  cases b <;> simp [rgD, oD]
@[simp] theorem ok_oD (n : Nat) (a : Option Int) : okD n (oD a) = true := by cases a <;> simp [oD]
end BW
namespace BW
open PySem L2
abbrev dd (x : D) : Option Slot := some (.dat x)
inductive St where
  | arm (m mode : Int) (wo : Option (List Int))
  | lift (m : Int)
  | wait (m : Int)
  | opened (m d : Int)
  | closed (m d : Int)
  | moved (m r : Int)
def woD : Option (List Int) → D
  | none => .non
  | some l => mD l
def St.m : St → Int
  | .arm m _ _ => m
  | .lift m => m
  | .wait m => m
  | .opened m _ => m
  | .closed m _ => m
  | .moved m _ => m
def St.fit : St → Prop
  | .arm _ _ (some l) => l.length ≤ 80000
  | _ => True
inductive Sw where
  | arm | opened | moved | closed | lift | wait
  deriving DecidableEq
def Sw.s : Sw → Str
  | .arm => "arm" | .opened => "opened" | .moved => "moved" | .closed => "closed" | .lift => "lift" | .wait => "wait"
end BW
namespace BW
open PySem L2
inductive Rf where
  | noMode | noRoom | noDoor | noEye | noTime | notOff | ajar | asIs | notSet
  deriving DecidableEq
def Rf.s : Rf → Str
  | .noMode => "NoMode" | .noRoom => "NoRoom" | .noDoor => "NoDoor" | .noEye => "NoEye" | .noTime => "NoTime" | .notOff => "NotOff" | .ajar => "Ajar" | .asIs => "AsIs" | .notSet => "NotSet"
def Rf.n : Rf → Int
  | .noMode => 1 | .noRoom => 2 | .noDoor => 3 | .noEye => 4 | .noTime => 6 | .notOff => 7 | .ajar => 8 | .asIs => 9 | .notSet => 10
def panM (p : Nat) : St → Store → Res D
  | .arm m k w => m_Panel_arm [.ref p, .int m, .int k, woD w]
  | .lift m => m_Panel_lift [.ref p, .int m]
  | .wait m => m_Panel_wait [.ref p, .int m]
  | .opened m d => m_Panel_opened [.ref p, .int d, .int m]
  | .closed m d => m_Panel_closed [.ref p, .int d, .int m]
  | .moved m r => m_Panel_moved [.ref p, .int r, .int m]
/-- what a step tells, and how the panel stands behind it -/
def doF (pm : Pm) (s : Sd) : St → Except Rf (Wo × Sd)
  | .arm m k w =>
    if m < s.last then .error .noTime else if ¬ (0 ≤ k ∧ k < pm.h.modes.length) then .error .noMode else match w with
      | none => .error .noEye
      | some l => if ¬ modeOk pm.h.eyes.length l then .error .noEye else if (behF pm m s).w ≠ .off then .error .notOff else if ajarB pm.h k l s.wide = true then .error .ajar
        else .ok ((armF pm m k l s).w, logF "arm" (.tup [.int k, mD l]) (armF pm m k l s))
  | .lift m => if m < s.last then .error .noTime else if (behF pm m s).w = .off then .error .notSet else .ok ((behF pm m s).w, logF "lift" .non (liftF pm m s))
  | .wait m => if m < s.last then .error .noTime else .ok ((behF pm m s).w, logF "wait" .non (behF pm m s))
  | .opened m d => if m < s.last then .error .noTime else if ¬ (0 ≤ d ∧ d < pm.h.doors.length) then .error .noDoor else if d ∈ s.wide then .error .asIs else .ok ((openF pm d m s).w, logF "opened" (.int d) (openF pm d m s))
  | .closed m d => if m < s.last then .error .noTime else if ¬ (0 ≤ d ∧ d < pm.h.doors.length) then .error .noDoor else if d ∉ s.wide then .error .asIs else .ok ((closeF pm d m s).w, logF "closed" (.int d) (closeF pm d m s))
  | .moved m r => if m < s.last then .error .noTime else if ¬ (1 ≤ r ∧ r < pm.h.many) then .error .noRoom else .ok ((moveF pm r m s).w, logF "moved" (.int r) (moveF pm r m s))
theorem grow_refl (S : Store) : Grow S S := ⟨Nat.le_refl _, fun _ _ => rfl⟩
theorem pan_ev {S : Store} {p : Nat} {P : Pc} {s : Sd} (A : At S p P s) (lw : s.wide.length ≤ 900) (c : cR s ≤ 500) (w : s.rows.length ≤ 700) (g : P.gone.length ≤ 700) (t : St) (tf : t.fit) :
    match doF P.pm s t with
    | .error r => ∃ S', panM p t S = .err r.s S' ∧ Grow S S'
    | .ok (x, s') => ∃ S' P', panM p t S = .ok (.str x.s) S' ∧ Did S p P S' P' s' := by
  cases t with
  | wait m =>
    simp only [doF, panM]
    by_cases h1 : m < s.last
    · rw [if_pos h1]; exact ⟨_, wait_no A h1, grow_refl _⟩
    · rw [if_neg h1]; exact A.wait (by omega) c w g
  | lift m =>
    simp only [doF, panM]
    by_cases h1 : m < s.last
    · rw [if_pos h1]; exact ⟨_, lift_notime A h1, grow_refl _⟩
    · rw [if_neg h1]
      by_cases h2 : (behF P.pm m s).w = .off
      · rw [if_pos h2]; exact ⟨_, lift_notset A (by omega) h2, grow_app _⟩
      · rw [if_neg h2]; exact A.lift (by omega) h2 c w g
  | opened m d =>
    simp only [doF, panM]
    by_cases h1 : m < s.last
    · rw [if_pos h1]; exact ⟨_, opened_notime A _ h1, grow_refl _⟩
    · rw [if_neg h1]
      by_cases h2 : 0 ≤ d ∧ d < P.pm.h.doors.length
      · rw [if_neg (fun z => z h2)]
        by_cases h3 : d ∈ s.wide
        · rw [if_pos h3]; exact ⟨_, opened_asis A (by omega) h2.1 h2.2 h3, grow_app _⟩
        · rw [if_neg h3]; exact A.opened (by omega) h2.1 h2.2 h3 lw c w g
      · rw [if_pos h2]; exact ⟨_, opened_nodoor A _ (by omega) (fun c => need_door_no A h2 c), grow_app _⟩
  | closed m d =>
    simp only [doF, panM]
    by_cases h1 : m < s.last
    · rw [if_pos h1]; exact ⟨_, closed_notime A _ h1, grow_refl _⟩
    · rw [if_neg h1]
      by_cases h2 : 0 ≤ d ∧ d < P.pm.h.doors.length
      · rw [if_neg (fun z => z h2)]
        by_cases h3 : d ∈ s.wide
        · rw [if_neg (fun z => z h3)]; exact A.closed (by omega) h2.1 h2.2 h3 lw c w g
        · rw [if_pos h3]; exact ⟨_, closed_asis A (by omega) h2.1 h2.2 h3, grow_app _⟩
      · rw [if_pos h2]; exact ⟨_, closed_nodoor A _ (by omega) (fun c => need_door_no A h2 c), grow_app _⟩
  | moved m d =>
    simp only [doF, panM]
    by_cases h1 : m < s.last
    · rw [if_pos h1]; exact ⟨_, moved_notime A _ h1, grow_refl _⟩
    · rw [if_neg h1]
      by_cases h2 : 1 ≤ d ∧ d < P.pm.h.many
      · rw [if_neg (fun z => z h2)]; exact A.moved (by omega) h2.1 h2.2 c w g
      · rw [if_pos h2]; exact ⟨_, moved_noroom A (by omega) h2, grow_app _⟩
  | arm m k wo =>
    by_cases h1 : m < s.last
    · simp only [doF, panM]
      rw [if_pos h1]; exact ⟨_, arm_notime A _ _ h1, grow_refl _⟩
    · by_cases h2 : 0 ≤ k ∧ k < P.pm.h.modes.length
      · cases wo with
        | none =>
          simp only [doF, panM]
          rw [if_neg h1, if_neg (fun z => z h2)]
          refine ⟨_, arm_noeye A (by omega) h2.1 h2.2 (fun S => ?_), grow_app _⟩
          show m_is_mode [.non, _] S = _
          simp -implicitDefEqProofs [m_is_mode, g_is_mode, isTupD]
        | some l =>
          simp only [doF, panM]
          rw [if_neg h1, if_neg (fun z => z h2)]
          by_cases h3 : modeOk P.pm.h.eyes.length l
          · rw [if_neg (fun z => z h3)]
            by_cases h4 : (behF P.pm m s).w = .off
            · rw [if_neg (fun z => z h4)]
              by_cases h5 : ajarB P.pm.h k l s.wide = true
              · rw [if_pos h5]; exact ⟨_, arm_ajar A (by omega) h2.1 h2.2 h3 h4 h5, grow_app _⟩
              · rw [if_neg h5]; exact A.arm (by omega) h2.1 h2.2 h3 h4 (by simpa using h5) c w g
            · rw [if_pos h4]; exact ⟨_, arm_notoff A (by omega) h2.1 h2.2 h3 h4, grow_app _⟩
          · rw [if_pos h3]
            refine ⟨_, arm_noeye A (by omega) h2.1 h2.2 (fun S => ?_), grow_app _⟩
            have := mode_ev (S := S) P.pm.h.eyes.length l tf
            rw [decide_eq_false h3] at this
            exact this
      · simp only [doF, panM]
        rw [if_neg h1, if_pos h2]; exact ⟨_, arm_nomode A _ (by omega) (fun S => need_mode_no S h2), grow_app _⟩
end BW
namespace BW
open PySem L2
def Ahead (m : Int) (s : Sd) : Prop := ∀ f, s.fin = some f → m < f
theorem ahead_of {m : Int} {s : Sd} (h : due m s = false) : Ahead m s := by
  intro f hf
  unfold due at h
  rw [hf] at h
  have := of_decide_eq_false h
  omega
theorem go_done {pm : Pm} {m : Int} : ∀ (n : Nat) {s : Sd}, s.Ok pm → mu s ≤ n → due m (goF pm m n s) = false
  | 0, s, h, hn => by
    unfold goF
    cases hd : due m s with
    | false => rfl
    | true =>
      obtain ⟨f, hf, _⟩ := due_fin hd
      have := mu_turn (m := 0) h (by rw [hf]; simp)
      omega
  | n + 1, s, h, hn => by
    unfold goF
    split
    · rename_i hd
      obtain ⟨f, hf, _⟩ := due_fin hd
      have := mu_turn (m := s.fin.getD 0) h (by rw [hf]; simp)
      exact go_done n (turnF_ok h) (by omega)
    · rename_i hd; simpa using hd
theorem pass_ahead {pm : Pm} {m : Int} {s : Sd} (h : s.Ok pm) : Ahead m (passF pm m s) := ahead_of (go_done 4 h (by have := mu_le s; omega))
theorem ring_ahead {pm : Pm} {e m : Int} {s : Sd} (hr : 1 ≤ pm.rg) : Ahead m (ringF pm e m s) := by
  intro f hf
  unfold ringF at hf
  split at hf <;> (cases hf; omega)
theorem trip_ahead {pm : Pm} {e m : Int} {s : Sd} (hr : 1 ≤ pm.rg) (h : Ahead m s) : Ahead m (tripF pm e m s) := by
  unfold tripF
  split
  · exact ring_ahead hr
  · split
    · split
      · rename_i z; intro f hf; cases hf; omega
      · split
        · exact ring_ahead hr
        · exact h
    · exact h
theorem at_ahead {pm : Pm} {b : Bool} {n : Int} {s : Sd} (hr : 1 ≤ pm.rg) (h : Ahead s.last s) : Ahead s.last (atF pm b n s) := by
  unfold atF
  split
  · exact h
  · exact trip_ahead hr h
theorem at_last (pm : Pm) (b : Bool) (n : Int) (s : Sd) : (atF pm b n s).last = s.last := (atF_mode pm b n s).2.2.2.1
theorem beh_ahead {pm : Pm} {m : Int} {s : Sd} (h : s.Ok pm) : Ahead m (behF pm m s) := pass_ahead h
theorem openF_last (pm : Pm) (d m : Int) (s : Sd) : (openF pm d m s).last = m := at_last pm true d _
theorem moveF_last (pm : Pm) (d m : Int) (s : Sd) : (moveF pm d m s).last = m := at_last pm false d _
theorem liftF_last (pm : Pm) (m : Int) (s : Sd) : (liftF pm m s).last = m := by unfold liftF; split <;> rfl
theorem armF_last (pm : Pm) (m k : Int) (wo : List Int) (s : Sd) : (armF pm m k wo s).last = m := (pass_mode pm m _).2.2.2.1
def RowOk (d : D) : Prop := okD 5 d = true ∧ deq d d = true
theorem row_non (m : Int) (w : String) : RowOk (rowD m w .non) := by constructor <;> simp [rowD]
theorem row_int (m : Int) (w : String) (d : Int) : RowOk (rowD m w (.int d)) := by constructor <;> simp [rowD]
theorem row_arm (m : Int) (w : String) (k : Int) (l : List Int) : RowOk (rowD m w (.tup [.int k, mD l])) := by constructor <;> simp [rowD, mD]
structure Run (n : Nat) (S : Store) (p : Nat) (P : Pc) (s : Sd) : Prop where
  at' : At S p P s
  wide : s.wide.length ≤ n
  bells : cR s ≤ 1 + 3 * n
  rows : s.rows.length ≤ n
  gone : P.gone.length ≤ n
  coming : P.coming = []
  rok : ∀ d ∈ s.rows, RowOk d
  ahead : Ahead s.last s
theorem isort_len (l : List Int) : (isort l).length = l.length := (isort_perm l).length_eq
/-- what a step leaves -/
structure Left (pm : Pm) (s s' : Sd) (t : St) : Prop where
  wide : s'.wide.length ≤ s.wide.length + 1
  bells : cR s' ≤ cR s + 3
  rows : ∃ d, s'.rows = s.rows ++ [d] ∧ RowOk d
  ahead : Ahead s'.last s'
  last : s'.last = t.m
  le : s.last ≤ t.m
theorem do_left {pm : Pm} {s s' : Sd} {x : Wo} {t : St} (hr : 1 ≤ pm.rg) (h : s.Ok pm) (e : doF pm s t = .ok (x, s')) : Left pm s s' t := by
  cases t with
  | wait m =>
    simp only [doF] at e
    split at e
    · cases e
    · cases e
      exact ⟨by show (behF pm m s).wide.length ≤ _; rw [beh_wide]; omega, by rw [cR_log]; have := cR_beh pm m h; omega, ⟨_, by rw [← beh_rows pm m s]; rfl, row_non _ _⟩, beh_ahead h, rfl, by show s.last ≤ m; omega⟩
  | lift m =>
    simp only [doF] at e
    split at e
    · cases e
    · split at e
      · cases e
      · cases e
        refine ⟨?_, by rw [cR_log]; have := cR_lift pm m h; omega, ⟨_, by rw [← liftF_rows pm m s]; rfl, row_non _ _⟩, fun f hf => (by cases hf), liftF_last pm m s, by show s.last ≤ m; omega⟩
        have : (liftF pm m s).wide = (behF pm m s).wide := by unfold liftF; split <;> rfl
        show (liftF pm m s).wide.length ≤ _
        rw [this, beh_wide]; omega
  | opened m d =>
    simp only [doF] at e
    split at e
    · cases e
    · split at e
      · cases e
      · split at e
        · cases e
        · cases e
          refine ⟨?_, by rw [cR_log]; have := cR_open pm d m h; omega, ⟨_, by rw [← openF_rows pm d m s]; rfl, row_int _ _ _⟩, ?_, openF_last pm d m s, by show s.last ≤ m; omega⟩
          · show (openF pm d m s).wide.length ≤ _
            rw [show (openF pm d m s).wide = _ from (atF_mode pm true d _).2.2.1]
            show (isort ((behF pm m s).wide ++ [d])).length ≤ _
            rw [isort_len, beh_wide]
            simp
          · show Ahead (openF pm d m s).last (openF pm d m s)
            rw [openF_last]
            exact at_ahead (s := { behF pm m s with wide := isort ((behF pm m s).wide ++ [d]) }) hr (beh_ahead h)
  | closed m d =>
    simp only [doF] at e
    split at e
    · cases e
    · split at e
      · cases e
      · split at e
        · cases e
        · cases e
          refine ⟨?_, by rw [cR_log]; have := cR_close pm d m h; omega, ⟨_, by show _ = s.rows ++ [_]; rw [← beh_rows pm m s]; rfl, row_int _ _ _⟩, beh_ahead h, rfl, by show s.last ≤ m; omega⟩
          show ((behF pm m s).wide.filter _).length ≤ _
          refine Nat.le_trans (List.length_filter_le _ _) ?_
          rw [beh_wide]; omega
  | moved m d =>
    simp only [doF] at e
    split at e
    · cases e
    · split at e
      · cases e
      · cases e
        refine ⟨?_, by rw [cR_log]; have := cR_move pm d m h; omega, ⟨_, by rw [← moveF_rows pm d m s]; rfl, row_int _ _ _⟩, ?_, moveF_last pm d m s, by show s.last ≤ m; omega⟩
        · show (moveF pm d m s).wide.length ≤ _
          rw [show (moveF pm d m s).wide = _ from (atF_mode pm false d _).2.2.1, beh_wide]
          omega
        · show Ahead (moveF pm d m s).last (moveF pm d m s)
          rw [moveF_last]
          exact at_ahead (s := behF pm m s) hr (beh_ahead h)
  | arm m k wo =>
    cases wo with
    | none =>
      simp only [doF] at e
      split at e
      · cases e
      · split at e <;> cases e
    | some l =>
      simp only [doF] at e
      split at e
      · cases e
      · split at e
        · cases e
        · rename_i h2
          have h2 := Decidable.not_not.mp h2
          split at e
          · cases e
          · split at e
            · cases e
            · split at e
              · cases e
              · cases e
                refine ⟨?_, by rw [cR_log]; have := cR_arm pm m k l h h2; omega, ⟨_, by rw [← armF_rows pm m k l s]; rfl, row_arm _ _ _ _⟩, ?_, armF_last pm m k l s, by show s.last ≤ m; omega⟩
                · show (armF pm m k l s).wide.length ≤ _
                  rw [show (armF pm m k l s).wide = (behF pm m s).wide from (pass_mode pm m _).2.2.1, beh_wide]
                  omega
                · show Ahead (armF pm m k l s).last (armF pm m k l s)
                  rw [armF_last]
                  exact pass_ahead ⟨fun z => (by rcases z with z | z <;> cases z), fun _ => ⟨_, rfl⟩, fun z => (by cases z), fun z => (by cases z), fun j hj => by cases hj; exact h2⟩
theorem Run.next {n : Nat} {S S' : Store} {p : Nat} {P P' : Pc} {s s' : Sd} {t : St} (R : Run n S p P s) (L : Left P.pm s s' t) (D : Did S p P S' P' s') : Run (n + 1) S' p P' s' := by
  obtain ⟨d, e, hd⟩ := L.rows
  refine ⟨D.at', by have := L.wide; have := R.wide; omega, by have := L.bells; have := R.bells; omega, by rw [e]; have := R.rows; simp; omega, by have := D.len; have := R.gone; omega, D.coming, ?_, L.ahead⟩
  rw [e]
  intro x hx
  rcases List.mem_append.mp hx with hx | hx
  · exact R.rok x hx
  · rw [List.mem_singleton.mp hx]; exact hd
theorem Run.grow {n : Nat} {S S' : Store} {p : Nat} {P : Pc} {s : Sd} (R : Run n S p P s) (g : Grow S S') : Run n S' p P s := ⟨R.at'.grow g, R.wide, R.bells, R.rows, R.gone, R.coming, R.rok, R.ahead⟩
theorem Run.more {n k : Nat} {S : Store} {p : Nat} {P : Pc} {s : Sd} (R : Run n S p P s) (h : n ≤ k) : Run k S p P s := ⟨R.at', by have := R.wide; omega, by have := R.bells; omega, by have := R.rows; omega, by have := R.gone; omega, R.coming, R.rok, R.ahead⟩
theorem made_run {S : Store} {pm : Pm} (g : pm.h.Ok) : Run 0 (S ++ [pC (pc0 pm (S.length + 1)), sC sd0]) S.length (pc0 pm (S.length + 1)) sd0 :=
  ⟨made_at g, by simp [sd0], by simp [sd0, cR], by simp [sd0], by simp [pc0], rfl, by simp [sd0], fun f hf => by cases hf⟩
end BW
namespace BW
open PySem L2
structure Rwc where
  n : Str
  c : Str
  rs : List Str
structure Co where
  tries : Int
  rest : Int
  rows : List Rwc
  misses : Int
  since : Int
  shut : Int
  last : Int
def rwD (r : Rwc) : D := .tup [.str r.c, .tup (r.rs.map .str)]
def rwK (r : Rwc) : Key × D := (.inr r.n, rwD r)
def coF (c : Co) : List (Str × D) := [("tries", .int c.tries), ("rest", .int c.rest), ("rows", .dic (c.rows.map rwK)), ("misses", .int c.misses), ("since", .int c.since), ("shut", .int c.shut), ("last", .int c.last)]
def coC (c : Co) : Cell := .ins "Codes" (coF c)
structure Rwc.Ok (r : Rwc) : Prop where
  n : PyData.strOk r.n = true
  c : PyData.strOk r.c = true
  rs : r.rs.all PyData.strOk = true
structure Co.Ok (c : Co) : Prop where
  few : c.rows.length ≤ 40
  nd : (c.rows.map (·.n)).Nodup
  ok : ∀ r ∈ c.rows, r.Ok
section
variable {S : Store} {i : Nat}
theorem at_c {c : Co} (h : S[i]? = some (coC c)) : insAt "Codes" (.ref i) S = some (i, coF c) := by simp [insAt, h, coC]
end
section
variable (s : Co) (d : D)
@[simp] theorem c_tries : (coF s).lookup ("tries" : Str) = some (.int s.tries) := by simp [coF, List.lookup]
@[simp] theorem c_rest : (coF s).lookup ("rest" : Str) = some (.int s.rest) := by simp [coF, List.lookup]
@[simp] theorem c_rows : (coF s).lookup ("rows" : Str) = some (.dic (s.rows.map rwK)) := by simp [coF, List.lookup]
@[simp] theorem c_misses : (coF s).lookup ("misses" : Str) = some (.int s.misses) := by simp [coF, List.lookup]
@[simp] theorem c_since : (coF s).lookup ("since" : Str) = some (.int s.since) := by simp [coF, List.lookup]
@[simp] theorem c_shut : (coF s).lookup ("shut" : Str) = some (.int s.shut) := by simp [coF, List.lookup]
@[simp] theorem c_last : (coF s).lookup ("last" : Str) = some (.int s.last) := by simp [coF, List.lookup]
@[simp] theorem c_who : (coF s).lookup ("who" : Str) = none := by simp [coF, List.lookup]
@[simp] theorem c_give : (coF s).lookup ("give" : Str) = none := by simp [coF, List.lookup]
@[simp] theorem c_take : (coF s).lookup ("take" : Str) = none := by simp [coF, List.lookup]
@[simp] theorem c_ask : (coF s).lookup ("ask" : Str) = none := by simp [coF, List.lookup]
@[simp] theorem c_names : (coF s).lookup ("names" : Str) = none := by simp [coF, List.lookup]
@[simp] theorem c_locked_at : (coF s).lookup ("locked_at" : Str) = none := by simp [coF, List.lookup]
@[simp] theorem coF_len : (coF s).length = 7 := rfl
theorem q_misses (x : Int) : putFD "misses" (.int x) (coF s) = coF { s with misses := x } := by simp [coF, putFD]
theorem q_since (x : Int) : putFD "since" (.int x) (coF s) = coF { s with since := x } := by simp [coF, putFD]
theorem q_shut (x : Int) : putFD "shut" (.int x) (coF s) = coF { s with shut := x } := by simp [coF, putFD]
theorem q_last (x : Int) : putFD "last" (.int x) (coF s) = coF { s with last := x } := by simp [coF, putFD]
theorem q_rows (x : List Rwc) : putFD "rows" (.dic (x.map rwK)) (coF s) = coF { s with rows := x } := by simp [coF, putFD]
end
section
variable {S : Store} {p : Nat} {c : Co}
theorem cset_same (h : S[p]? = some (coC c)) : S.set p (coC c) = S := by
  refine List.ext_getElem? fun j => ?_
  by_cases e : p = j
  · subst e; rw [List.getElem?_set_self (lt_of_at h), h]
  · rw [List.getElem?_set_ne e]
theorem cat_set (h : S[p]? = some (coC c)) (c' : Co) : insAt "Codes" (.ref p) (S.set p (.ins "Codes" (coF c'))) = some (p, coF c') := by
  refine at_c (c := c') ?_
  rw [List.getElem?_set_self (lt_of_at h)]; rfl
theorem locked_ev (h : S[p]? = some (coC c)) (m : Int) : m_Codes_locked_at [.ref p, .int m] S = .ok (.bl (decide (c.since ≤ m) && decide (m < c.shut))) S := by
  have ac := at_c h
  have q : gLt (.int m) (.int c.shut) S = some (.bl (decide (m < c.shut))) := rfl
  by_cases z : c.since ≤ m <;> simp [m_Codes_locked_at, g_Codes_locked_at, ac, gI2, z, q]
theorem ge_i (S : Store) (a b : Int) : gGe (.int a) (.int b) S = some (.bl (decide (b ≤ a))) := rfl
def whoF (rows : List Rwc) (code : Str) : Option Rwc := rows.find? fun r => r.c == code
def oN (o : Option Rwc) : D := match o with
  | none => .non
  | some r => .str r.n
theorem val_row {rows : List Rwc} (nd : (rows.map (·.n)).Nodup) {r : Rwc} (hr : r ∈ rows) : valD (rows.map rwK) (.inr r.n) = some (rwD r) := by
  unfold valD
  induction rows with
  | nil => cases hr
  | cons q rows ih =>
    rw [List.map_cons, List.nodup_cons] at nd
    rw [List.map_cons]
    rcases List.mem_cons.mp hr with e | hr'
    · subst e
      rw [List.find?_cons_of_pos (by simp [rwK])]
      rfl
    · rw [List.find?_cons_of_neg (by
        simp only [rwK, decide_eq_true_eq]
        intro z
        have z := Sum.inr.inj (of_decide_eq_true z)
        rw [z] at nd
        exact nd.1 (List.mem_map_of_mem (f := fun r : Rwc => r.n) hr'))]
      exact ih nd.2 hr'
theorem val_none {rows : List Rwc} {n : Str} (h : n ∉ rows.map (·.n)) : valD (rows.map rwK) (.inr n) = none := by
  unfold valD
  rw [Option.map_eq_none_iff, List.find?_eq_none]
  intro kv hkv
  obtain ⟨r, hr, rfl⟩ := List.mem_map.mp hkv
  simp only [rwK, decide_eq_true_eq]
  intro z
  have z := Sum.inr.inj (of_decide_eq_true z)
  rw [← z] at h
  exact h (List.mem_map_of_mem (f := fun r : Rwc => r.n) hr)
theorem find_head (p : Rwc → Bool) : ∀ l : List Rwc, l.find? p = (l.filter p).head?
  | [] => rfl
  | x :: l => by
    by_cases h : p x = true
    · rw [List.find?_cons_of_pos h, List.filter_cons_of_pos h]; rfl
    · rw [List.find?_cons_of_neg h, List.filter_cons_of_neg h]; exact find_head p l
theorem who_ev (h : S[p]? = some (coC c)) (ok : c.Ok) (code : Str) (hc : PyData.strOk code = true) : m_Codes_who [.ref p, .str code] S = .ok (oN (whoF c.rows code)) S := by
  have ac := at_c h
  have few := ok.few
  have cm := compT (e := fun r : Rwc => D.str r.n) (t := tgName 3) (ft := fB (f2 (gEq false) (f2 gIx (f2 gIx (fFld "Codes" "rows" (fV 0)) (fV 3)) (fC (.int 0))) (fV 1))) (fe := fV 3) (ρ := [some (.dat (.ref p)), some (.dat (.str code)), none, none]) (S := S) (fun r => r.c == code) (fun r => .str r.n) (xs := c.rows) (by omega) (fun r hr => by
      have hv := val_row ok.nd hr
      have i0 : gIx (rwD r) (.int 0) S = some (.str r.c) := rfl
      have q := eq_str S false r.c code (ok.ok r hr).c hc
      rw [Bool.false_xor] at q
      exact ⟨_, rfl, by simp [ac, hv, i0, q], fun _ => by simp⟩)
  have it : (c.rows.map rwK).map (fun kv => kD kv.1) = c.rows.map fun r => D.str r.n := by
    rw [List.map_map]; rfl
  have okl : okD 12 (.lst ((c.rows.filter fun r => r.c == code).map fun r => D.str r.n)) = true := by
    simp only [okD, List.all_eq_true]
    intro d hd
    obtain ⟨r, hr, rfl⟩ := List.mem_map.mp hd
    exact (ok.ok r (List.mem_filter.mp hr).1).n
  unfold whoF
  rw [find_head]
  cases hw : (c.rows.filter fun r => r.c == code) with
  | nil =>
    rw [hw] at cm okl
    have q : gEq true (.lst []) (.lst []) S = some (.bl false) := rfl
    simp -implicitDefEqProofs [m_Codes_who, g_Codes_who, ac, it, wipeE, cm, lim_small, q, oN]
  | cons x l =>
    rw [hw] at cm okl
    have q : gEq true (.lst ((x :: l).map fun r => D.str r.n)) (.lst []) S = some (.bl true) := by
      rw [eq_ok S true okl rfl]; rfl
    have ix : gIx (.lst ((x :: l).map fun r => D.str r.n)) (.int 0) S = some (.str x.n) := by rw [ix_lst _ _ (by decide)]; rfl
    generalize ((x :: l).map fun r => D.str r.n) = L at *
    simp -implicitDefEqProofs [m_Codes_who, g_Codes_who, ac, it, wipeE, cm, lim_small, q, ix, oN]
abbrev CR := Except Str D × Co
def lockB (c : Co) (m : Int) : Bool := decide (c.since ≤ m) && decide (m < c.shut)
def wrongF (c : Co) (m : Int) : Co := if c.tries ≤ c.misses + 1 then { c with last := m, misses := 0, since := m, shut := m + c.rest } else { c with last := m, misses := c.misses + 1 }
def askF (c : Co) (code : Str) (m : Int) (right : Str) : CR :=
  if m < c.last then (.error "NoTime", c) else if lockB c m = true then (.error "Locked", c) else match whoF c.rows code with
    | none => (.error "Wrong", wrongF c m)
    | some r => if r.rs.any (· == right) = true then (.ok (.str r.n), { c with last := m, misses := 0 }) else (.error "NoRight", { c with last := m, misses := 0 })
def resC (S : Store) (p : Nat) (r : CR) : Res D := match r.1 with
  | .ok d => .ok d (S.set p (coC r.2))
  | .error x => .err x (S.set p (coC r.2))
theorem who_mem {rows : List Rwc} {code : Str} {r : Rwc} (h : whoF rows code = some r) : r ∈ rows ∧ r.c = code := by
  unfold whoF at h
  exact ⟨List.mem_of_find?_eq_some h, by simpa using List.find?_some h⟩
theorem ask_ev (h : S[p]? = some (coC c)) (ok : c.Ok) {code right : Str} (m : Int) (hc : PyData.strOk code = true) (hr : PyData.strOk right = true) : m_Codes_ask [.ref p, .str code, .int m, .str right] S = resC S p (askF c code m right) := by
  have ac := at_c h
  have lt := lt_of_at h
  have q1 : gLt (.int m) (.int c.last) S = some (.bl (decide (m < c.last))) := rfl
  have lk := locked_ev h m
  unfold askF
  by_cases h1 : m < c.last
  · rw [if_pos h1]
    rw [decide_eq_true h1] at q1
    simp only [resC, cset_same h]
    simp -implicitDefEqProofs [m_Codes_ask, g_Codes_ask, ac, q1]
  · rw [if_neg h1]
    rw [decide_eq_false h1] at q1
    by_cases h2 : lockB c m = true
    · rw [if_pos h2]
      rw [show (decide (c.since ≤ m) && decide (m < c.shut)) = true from h2] at lk
      simp only [resC, cset_same h]
      simp -implicitDefEqProofs [m_Codes_ask, g_Codes_ask, ac, q1, lk]
    · rw [if_neg h2]
      rw [show (decide (c.since ≤ m) && decide (m < c.shut)) = false by simpa [lockB] using h2] at lk
      have ok' : ({ c with last := m } : Co).Ok := ⟨ok.few, ok.nd, ok.ok⟩
      have wv := who_ev (S := S.set p (coC { c with last := m })) (p := p) (c := { c with last := m }) (by rw [List.getElem?_set_self lt]) ok' code hc
      unfold coC at wv
      have wv : m_Codes_who [.ref p, .str code] (S.set p (.ins "Codes" (coF { c with last := m }))) = .ok (oN (whoF c.rows code)) (S.set p (.ins "Codes" (coF { c with last := m }))) := wv
      have as := fun c' => cat_set h c'
      cases hw : whoF c.rows code with
      | none =>
        rw [hw] at wv
        simp only [oN] at wv
        have q2 := fun S => ge_i S (c.misses + 1) c.tries
        by_cases h3 : c.tries ≤ c.misses + 1
        · simp only [wrongF, if_pos h3, resC, coC]
          simp only [decide_eq_true h3] at q2
          simp -implicitDefEqProofs [m_Codes_ask, g_Codes_ask, ac, q1, lk, q_last, q_misses, q_since, q_shut, as, wv, gIs, isNonD, q2]
        · simp only [wrongF, if_neg h3, resC, coC]
          simp only [decide_eq_false h3] at q2
          simp -implicitDefEqProofs [m_Codes_ask, g_Codes_ask, ac, q1, lk, q_last, q_misses, q_since, q_shut, as, wv, gIs, isNonD, q2]
      | some r =>
        rw [hw] at wv
        simp only [oN] at wv
        obtain ⟨hm, _⟩ := who_mem hw
        have hv := val_row ok.nd hm
        have i1 : ∀ S, gIx (rwD r) (.int 1) S = some (.tup (r.rs.map .str)) := fun S => rfl
        have q := fun S => in_strs S true right r.rs hr (ok.ok r hm).rs
        simp only
        cases hb : r.rs.any (· == right) with
        | true =>
          simp only [hb, Bool.xor_true, Bool.not_true] at q
          simp only [if_true, resC, coC]
          simp -implicitDefEqProofs [m_Codes_ask, g_Codes_ask, ac, q1, lk, q_last, q_misses, as, wv, gIs, isNonD, hv, i1, q]
        | false =>
          simp only [hb, Bool.xor_false] at q
          simp only [Bool.false_eq_true, if_false, resC, coC]
          simp -implicitDefEqProofs [m_Codes_ask, g_Codes_ask, ac, q1, lk, q_last, q_misses, as, wv, gIs, isNonD, hv, i1, q]
def giveF (c : Co) (r : Rwc) : CR := if r.n ∈ c.rows.map (·.n) ∨ (whoF c.rows r.c).isSome = true then (.error "Taken", c) else (.ok (.int ((c.rows.length + 1 : Nat) : Int)), { c with rows := c.rows ++ [r] })
def takeF (c : Co) (n : Str) : CR := match c.rows.find? (fun r => r.n == n) with
  | none => (.error "NoName", c)
  | some r => (.ok (rwD r), { c with rows := c.rows.filter fun q => !(q.n == n) })
theorem putD_new {kvs : List (Key × D)} {k : Key} {v : D} (h : valD kvs k = none) : putD kvs k v = kvs ++ [(k, v)] := by
  unfold putD
  rw [if_neg]
  intro ha
  obtain ⟨kv, hkv, e⟩ := List.any_eq_true.mp ha
  simp only [valD, Option.map_eq_none_iff] at h
  exact (List.find?_eq_none.mp h) kv hkv e
theorem inX_dic (S : Store) (neg : Bool) (l : List (Key × D)) (x : Str) : gInX neg (.str x) (.dic l) S = some (.bl (xor neg (valD l (.inr x)).isSome)) := rfl
theorem give_ev (h : S[p]? = some (coC c)) (ok : c.Ok) {r : Rwc} (k : r.Ok) (h1 : ∀ S, m_is_name [.str r.n] S = .ok (.bl true) S) (h2 : ∀ S, m_is_code [.str r.c] S = .ok (.bl true) S) (h3 : ∀ S, m_are_rights [.tup (r.rs.map .str)] S = .ok (.bl true) S) : m_Codes_give [.ref p, .str r.n, .str r.c, .tup (r.rs.map .str)] S = resC S p (giveF c r) := by
  have ac := at_c h
  have lt := lt_of_at h
  have few := ok.few
  have wv := who_ev h ok r.c k.c
  have i1 := inX_dic S false (c.rows.map rwK) r.n
  unfold giveF
  by_cases z : r.n ∈ c.rows.map (·.n)
  · rw [if_pos (.inl z)]
    obtain ⟨q, hq, e⟩ := List.mem_map.mp z
    have vr := val_row ok.nd hq
    rw [e] at vr
    rw [vr] at i1
    simp only [resC, cset_same h]
    simp -implicitDefEqProofs [m_Codes_give, g_Codes_give, h1, h2, h3, ac, i1]
  · have vn := val_none z
    rw [vn] at i1
    cases hw : whoF c.rows r.c with
    | some q =>
      rw [hw] at wv
      simp only [oN] at wv
      rw [if_pos (.inr rfl)]
      simp only [resC, cset_same h]
      simp -implicitDefEqProofs [m_Codes_give, g_Codes_give, h1, h2, h3, ac, i1, wv, gIs, isNonD]
    | none =>
      rw [hw] at wv
      simp only [oN] at wv
      rw [if_neg (by simp [z])]
      have pd := putD_new (v := D.tup [.str r.c, .tup (r.rs.map .str)]) vn
      have em : c.rows.map rwK ++ [(.inr r.n, D.tup [.str r.c, .tup (r.rs.map .str)])] = (c.rows ++ [r]).map rwK := by rw [List.map_append]; rfl
      rw [em] at pd
      have hl : c.rows.length < LIM := limlt_small (by omega)
      have hl2 : ((c.rows ++ [r]).map rwK).length = c.rows.length + 1 := by simp
      have hl3 : c.rows.length + 1 ≤ LIM := lim_small (by omega)
      have qr := q_rows c (c.rows ++ [r])
      have e1 : resC S p (.ok (.int ((c.rows.length + 1 : Nat) : Int)), { c with rows := c.rows ++ [r] }) = .ok (.int ((c.rows.length + 1 : Nat) : Int)) (S.set p (.ins "Codes" (coF { c with rows := c.rows ++ [r] }))) := rfl
      rw [e1]
      generalize (c.rows ++ [r]).map rwK = L2 at *
      generalize r.rs.map D.str = RS at *
      simp -implicitDefEqProofs [m_Codes_give, g_Codes_give, h1, h2, h3, ac, i1, wv, gIs, isNonD, sPutOwnD, sFreeze, keyD, hl, lim_small, pd, qr, hl2, hl3]
end
end BW
namespace BW
open PySem L2
section
variable {S : Store} {p : Nat} {c : Co}
theorem find_n {rows : List Rwc} {n : Str} {r : Rwc} (h : rows.find? (fun r => r.n == n) = some r) : r ∈ rows ∧ r.n = n := ⟨List.mem_of_find?_eq_some h, by simpa using List.find?_some h⟩
theorem find_no {rows : List Rwc} {n : Str} (h : rows.find? (fun r => r.n == n) = none) : n ∉ rows.map (·.n) := by
  intro z
  obtain ⟨r, hr, e⟩ := List.mem_map.mp z
  have := List.find?_eq_none.mp h r hr
  simp [e] at this
theorem pairs_map : ∀ l : List Rwc, pairs? (l.map fun r => D.tup [.str r.n, rwD r]) = some (l.map rwK)
  | [] => rfl
  | r :: l => by
    rw [List.map_cons, List.map_cons]
    simp only [pairs?, keyD, pairs_map l]
    rfl
theorem merge_new : ∀ (l acc : List Rwc), ((acc ++ l).map (·.n)).Nodup → mergeD (acc.map rwK) (l.map rwK) = (acc ++ l).map rwK
  | [], acc, _ => by simp [mergeD]
  | r :: l, acc, nd => by
    have hn : r.n ∉ acc.map (·.n) := by
      rw [List.map_append, List.nodup_append] at nd
      intro z
      exact nd.2.2 r.n z r.n (by simp) rfl
    have e1 : mergeD (acc.map rwK) ((r :: l).map rwK) = mergeD (putD (acc.map rwK) (.inr r.n) (rwD r)) (l.map rwK) := rfl
    rw [e1, putD_new (val_none hn), show acc.map rwK ++ [(.inr r.n, rwD r)] = (acc ++ [r]).map rwK by rw [List.map_append]; rfl, merge_new l (acc ++ [r]) (by simpa using nd)]
    simp
theorem take_ev (h : S[p]? = some (coC c)) (ok : c.Ok) {n : Str} (hn : PyData.strOk n = true) : m_Codes_take [.ref p, .str n] S = resC S p (takeF c n) := by
  have ac := at_c h
  have lt := lt_of_at h
  have few := ok.few
  have i1 := inX_dic S true (c.rows.map rwK) n
  unfold takeF
  cases hf : c.rows.find? (fun r => r.n == n) with
  | none =>
    have vn := val_none (find_no hf)
    rw [vn] at i1
    simp only [resC, cset_same h]
    simp -implicitDefEqProofs [m_Codes_take, g_Codes_take, ac, i1]
  | some r =>
    obtain ⟨hr, e⟩ := find_n hf
    have vr := val_row ok.nd hr
    rw [e] at vr
    rw [vr] at i1
    have cm := compT (e := fun r : Rwc => D.str r.n) (t := tgName 3) (ft := fB (f2 (gEq true) (fV 3) (fV 1))) (fe := fTup (fCons (fV 3) (fCons (f2 gIx (fFld "Codes" "rows" (fV 0)) (fV 3)) fNil))) (ρ := [some (.dat (.ref p)), some (.dat (.str n)), some (.dat (rwD r)), none]) (S := S) (fun q => !(q.n == n)) (fun q => .tup [.str q.n, rwD q]) (xs := c.rows) (by omega) (fun q hq => by
      have hv := val_row ok.nd hq
      have qq := eq_str S true q.n n (ok.ok q hq).n hn
      rw [Bool.true_xor] at qq
      exact ⟨_, rfl, by simp [qq], fun _ => by simp [ac, hv, lim_small]⟩)
    have it : (c.rows.map rwK).map (fun kv => kD kv.1) = c.rows.map fun r => D.str r.n := by
      rw [List.map_map]; rfl
    have pm := pairs_map (c.rows.filter fun q => !(q.n == n))
    have mg := merge_new (c.rows.filter fun q => !(q.n == n)) [] (by
      rw [List.nil_append]
      exact ok.nd.sublist ((List.filter_sublist).map _))
    rw [List.nil_append] at mg
    have gd : gDictP [.lst ((c.rows.filter fun q => !(q.n == n)).map fun q => D.tup [.str q.n, rwD q])] S = some (.dic ((c.rows.filter fun q => !(q.n == n)).map rwK)) := by
      show (pairs? _).map _ = _
      rw [pm]
      show some (D.dic (mergeD [] _)) = _
      rw [show ([] : List (Key × D)) = ([] : List Rwc).map rwK from rfl, mg]
    have qr := q_rows c (c.rows.filter fun q => !(q.n == n))
    have e1 : resC S p (.ok (rwD r), { c with rows := c.rows.filter fun q => !(q.n == n) }) = .ok (rwD r) (S.set p (.ins "Codes" (coF { c with rows := c.rows.filter fun q => !(q.n == n) }))) := rfl
    show _ = resC S p (.ok (rwD r), { c with rows := c.rows.filter fun q => !(q.n == n) })
    rw [e1]
    generalize (c.rows.filter fun q => !(q.n == n)) = L at *
    generalize (L.map fun q => D.tup [.str q.n, rwD q]) = L1 at *
    generalize L.map rwK = L2 at *
    simp -implicitDefEqProofs [m_Codes_take, g_Codes_take, ac, i1, vr, it, wipeE, cm, gd, qr]
theorem skeysR : ∀ l : List Rwc, skeys? (l.map rwK) = some (l.map (·.n))
  | [] => rfl
  | r :: l => by
    rw [List.map_cons]
    simp only [rwK, skeys?, List.map_cons]
    rw [skeysR l]
    rfl
theorem names_ev (h : S[p]? = some (coC c)) (ok : c.Ok) : m_Codes_names [.ref p] S = .ok (.lst ((ssort (c.rows.map (·.n))).map .str)) S := by
  have ac := at_c h
  have few := ok.few
  have gs : gSortedX [.dic (c.rows.map rwK)] S = some (.lst ((ssort (c.rows.map (·.n))).map .str)) := by
    show (skeys? _).bind _ = _
    rw [skeysR]
    show (if _ then _ else _) = _
    rw [if_pos (by simp; omega)]
  simp -implicitDefEqProofs [m_Codes_names, g_Codes_names, ac, gs]
theorem ask_ok (ok : c.Ok) (code right : Str) (m : Int) : (askF c code m right).2.Ok := by
  unfold askF
  split
  · exact ok
  · split
    · exact ok
    · split
      · unfold wrongF
        split <;> exact ⟨ok.few, ok.nd, ok.ok⟩
      · split <;> exact ⟨ok.few, ok.nd, ok.ok⟩
theorem give_ok (ok : c.Ok) {r : Rwc} (k : r.Ok) (few : c.rows.length ≤ 39) : (giveF c r).2.Ok := by
  unfold giveF
  split
  · exact ok
  · rename_i h
    refine ⟨by simp; omega, ?_, fun q hq => ?_⟩
    · show ((c.rows ++ [r]).map (·.n)).Nodup
      rw [List.map_append, List.nodup_append]
      refine ⟨ok.nd, by simp, fun a ha b hb e => ?_⟩
      rw [List.map_cons, List.map_nil, List.mem_singleton] at hb
      subst hb e
      exact h (.inl ha)
    · rcases List.mem_append.mp hq with z | z
      · exact ok.ok q z
      · rw [List.mem_singleton.mp z]; exact k
theorem take_ok (ok : c.Ok) (n : Str) : (takeF c n).2.Ok := by
  unfold takeF
  split
  · exact ok
  · refine ⟨Nat.le_trans (List.length_filter_le _ _) ok.few, ok.nd.sublist ((List.filter_sublist).map _), fun q hq => ok.ok q (List.mem_filter.mp hq).1⟩
def co0 (t r : Int) : Co := ⟨t, r, [], 0, 0, 0, 0⟩
theorem co0_ok (t r : Int) : (co0 t r).Ok := ⟨by simp [co0], by simp [co0], fun _ z => (by cases z)⟩
theorem cinit_ev (S : Store) (t r : Int) : m_Codes_init [.ref S.length, .int t, .int r] (S ++ [.ins "Codes" []]) = .ok .non (S ++ [coC (co0 t r)]) := by
  have i2 : ∀ (fs : List (Str × D)), insAt "Codes" (.ref S.length) (S ++ [.ins "Codes" fs]) = some (S.length, fs) := fun fs => by simp [insAt]
  have s2 : ∀ c e : Cell, (S ++ [c]).set S.length e = S ++ [e] := fun c e => by simp
  simp -implicitDefEqProofs [m_Codes_init, g_Codes_init, i2, s2, putFD, coC, coF, co0]
end
end BW
namespace BW
open PySem L2
abbrev Act := Int × Str × Str
structure Gu where
  panel : Nat
  codes : Nat
  acts : List Act
def actD (a : Act) : D := .tup [.int a.1, .str a.2.1, .str a.2.2]
def guF (g : Gu) : List (Str × D) := [("panel", .ref g.panel), ("codes", .ref g.codes), ("acts", .lst (g.acts.map actD))]
def guC (g : Gu) : Cell := .ins "Guard" (guF g)
theorem at_g {S : Store} {i : Nat} {g : Gu} (h : S[i]? = some (guC g)) : insAt "Guard" (.ref i) S = some (i, guF g) := by simp [insAt, h, guC]
section
variable (g : Gu)
@[simp] theorem g_panel : (guF g).lookup ("panel" : Str) = some (.ref g.panel) := by simp [guF, List.lookup]
@[simp] theorem g_codes : (guF g).lookup ("codes" : Str) = some (.ref g.codes) := by simp [guF, List.lookup]
@[simp] theorem g_acts : (guF g).lookup ("acts" : Str) = some (.lst (g.acts.map actD)) := by simp [guF, List.lookup]
@[simp] theorem guF_len : (guF g).length = 3 := rfl
theorem r_acts (x : List Act) : putFD "acts" (.lst (x.map actD)) (guF g) = guF { g with acts := x } := by simp [guF, putFD]
theorem gno_meth {m : Str} (h : (["panel", "codes", "acts"] : List Str).all (fun x => !(m == x)) = true) : (guF g).lookup m = none := by
  simp only [List.all_cons, List.all_nil, Bool.and_true, Bool.and_eq_true, Bool.not_eq_true'] at h
  obtain ⟨h1, h2, h3⟩ := h
  simp [guF, List.lookup, h1, h2, h3]
theorem gm_need_time : (guF g).lookup ("need_time" : Str) = none := gno_meth g (by simp)
theorem gm_set_by : (guF g).lookup ("set_by" : Str) = none := gno_meth g (by simp)
theorem gm_lift_by : (guF g).lookup ("lift_by" : Str) = none := gno_meth g (by simp)
theorem gm_give : (guF g).lookup ("give" : Str) = none := gno_meth g (by simp)
theorem gm_take : (guF g).lookup ("take" : Str) = none := gno_meth g (by simp)
theorem gm_shown : (guF g).lookup ("shown" : Str) = none := gno_meth g (by simp)
theorem gm_names : (guF g).lookup ("names" : Str) = none := gno_meth g (by simp)
theorem gm_done_by : (guF g).lookup ("done_by" : Str) = none := gno_meth g (by simp)
end
structure GAt (S : Store) (q : Nat) (g : Gu) (P : Pc) (s : Sd) (c : Co) : Prop where
  cg : S[q]? = some (guC g)
  pan : At S g.panel P s
  cod : S[g.codes]? = some (coC c)
  ok : c.Ok
  few : g.acts.length ≤ 900
  aok : ∀ a ∈ g.acts, PyData.strOk a.2.1 = true ∧ PyData.strOk a.2.2 = true
/-- a cell of another kind is changed -/
theorem At.setO {S : Store} {p i : Nat} {P : Pc} {s : Sd} {x y : Cell} (h : At S p P s) (hx : S[i]? = some x) (n1 : ∀ P : Pc, x ≠ pC P) (n2 : ∀ s : Sd, x ≠ sC s) : At (S.set i y) p P s := by
  have e1 : i ≠ p := fun e => by
    subst e
    rw [h.cp] at hx
    cases hx
    exact n1 P rfl
  have e2 : i ≠ P.here := fun e => by
    subst e
    rw [h.cs] at hx
    cases hx
    exact n2 s rfl
  exact ⟨h.g, by rw [List.getElem?_set_ne e1]; exact h.cp, by rw [List.getElem?_set_ne e2]; exact h.cs, h.ok, h.lr, h.lw, h.lg⟩
theorem co_ne_p (c : Co) (P : Pc) : coC c ≠ pC P := by simp [coC, pC]
theorem co_ne_s (c : Co) (s : Sd) : coC c ≠ sC s := by simp [coC, sC]
theorem gu_ne_p (g : Gu) (P : Pc) : guC g ≠ pC P := by simp [guC, pC]
theorem gu_ne_s (g : Gu) (s : Sd) : guC g ≠ sC s := by simp [guC, sC]
theorem co_ne_g (c : Co) (g : Gu) : coC c ≠ guC g := by simp [coC, guC]
theorem At.setC {S : Store} {p i : Nat} {P : Pc} {s : Sd} {c c' : Co} (h : At S p P s) (hx : S[i]? = some (coC c)) : At (S.set i (coC c')) p P s := h.setO hx (co_ne_p c) (co_ne_s c)
theorem At.setG {S : Store} {p i : Nat} {P : Pc} {s : Sd} {g g' : Gu} (h : At S p P s) (hx : S[i]? = some (guC g)) : At (S.set i (guC g')) p P s := h.setO hx (gu_ne_p g) (gu_ne_s g)
section
variable {S : Store} {q : Nat} {g : Gu} {P : Pc} {s : Sd} {c : Co}
theorem GAt.ne1 (h : GAt S q g P s c) : g.codes ≠ q := fun e => by
  have := h.cod
  rw [e, h.cg] at this
  exact co_ne_g c g (by cases this)
theorem GAt.ne2 (h : GAt S q g P s c) : g.panel ≠ q := fun e => by
  have := h.pan.cp
  rw [e, h.cg] at this
  exact gu_ne_p g P (by cases this)
theorem GAt.ne3 (h : GAt S q g P s c) : g.panel ≠ g.codes := fun e => by
  have := h.pan.cp
  rw [e, h.cod] at this
  exact co_ne_p c P (by cases this)
/-- the codes are changed -/
theorem GAt.codes' (h : GAt S q g P s c) {c' : Co} (ok : c'.Ok) : GAt (S.set g.codes (coC c')) q g P s c' :=
  ⟨by rw [List.getElem?_set_ne h.ne1]; exact h.cg, h.pan.setC h.cod, by rw [List.getElem?_set_self (lt_of_at h.cod)], ok, h.few, h.aok⟩
/-- the panel does a step -/
theorem GAt.step (h : GAt S q g P s c) {S' : Store} {P' : Pc} {s' : Sd} (D : Did S g.panel P S' P' s') : GAt S' q g P' s' c :=
  ⟨by rw [D.keep.2 q (lt_of_at h.cg) (Ne.symm h.ne2)]; exact h.cg, D.at', by rw [D.keep.2 g.codes (lt_of_at h.cod) (Ne.symm h.ne3)]; exact h.cod, h.ok, h.few, h.aok⟩
theorem GAt.grow (h : GAt S q g P s c) {S' : Store} (G : Grow S S') : GAt S' q g P s c :=
  ⟨by rw [G.2 q (lt_of_at h.cg)]; exact h.cg, h.pan.grow G, by rw [G.2 g.codes (lt_of_at h.cod)]; exact h.cod, h.ok, h.few, h.aok⟩
/-- something elsewhere is done -/
theorem GAt.keep (h : GAt S q g P s c) {S' : Store} {p : Nat} {Q : Pc} (K : Keep p S S') (hp : S[p]? = some (pC Q)) (hn : g.panel ≠ p) : GAt S' q g P s c := by
  have n1 : q ≠ p := fun e => by
    subst e
    rw [h.cg] at hp
    exact gu_ne_p g Q (by cases hp)
  have n2 : g.codes ≠ p := fun e => by
    rw [← e, h.cod] at hp
    exact co_ne_p c Q (by cases hp)
  exact ⟨by rw [K.2 q (lt_of_at h.cg) n1]; exact h.cg, h.pan.keep K hn hp, by rw [K.2 g.codes (lt_of_at h.cod) n2]; exact h.cod, h.ok, h.few, h.aok⟩
theorem GAt.act (h : GAt S q g P s c) {a : Act} (ha : PyData.strOk a.2.1 = true ∧ PyData.strOk a.2.2 = true) (hf : g.acts.length ≤ 899) : GAt (S.set q (guC { g with acts := g.acts ++ [a] })) q { g with acts := g.acts ++ [a] } P s c :=
  ⟨by rw [List.getElem?_set_self (lt_of_at h.cg)], h.pan.setG h.cg, by show (S.set q _)[g.codes]? = _; rw [List.getElem?_set_ne (Ne.symm h.ne1)]; exact h.cod, h.ok, by simp; omega, fun b hb => by
    rcases List.mem_append.mp hb with z | z
    · exact h.aok b z
    · rw [List.mem_singleton.mp z]; exact ha⟩
theorem shown_ev (h : GAt S q g P s c) : ∃ S', m_Guard_shown [.ref q] S = .ok (.ref S.length) S' ∧ At S' S.length P s ∧ Grow S S' ∧ S'.length = S.length + 2 := by
  have ag := at_g h.cg
  have ap := at_p h.pan.cp
  obtain ⟨S', e, A, G, L⟩ := h.pan.twin
  exact ⟨S', by simp -implicitDefEqProofs [m_Guard_shown, g_Guard_shown, ag, ap, nm_twin, e], A, G, L⟩
def doneL (g : Gu) (n : Str) : List D := (g.acts.filter fun a => a.2.1 == n).map fun a => .tup [.int a.1, .str a.2.2]
theorem done_by_ev (h : GAt S q g P s c) {n : Str} (hn : PyData.strOk n = true) : m_Guard_done_by [.ref q, .str n] S = .ok (.lst (doneL g n)) S := by
  have ag := at_g h.cg
  have few := h.few
  have cm := compT (e := actD) (t := tgTup 3 (tgCons (tgName 2) (tgCons (tgName 3) (tgCons (tgName 4) tgNil)))) (ft := fB (f2 (gEq false) (fV 3) (fV 1))) (fe := fTup (fCons (fV 2) (fCons (fV 4) fNil))) (ρ := [some (.dat (.ref q)), some (.dat (.str n)), none, none, none]) (S := S) (fun a => a.2.1 == n) (fun a => .tup [.int a.1, .str a.2.2]) (xs := g.acts) (by omega) (fun a ha => by
    have qq := eq_str S false a.2.1 n (h.aok a ha).1 hn
    rw [Bool.false_xor] at qq
    exact ⟨_, rfl, by simp [qq], fun _ => by simp [lim_small]⟩)
  unfold doneL
  generalize ((g.acts.filter fun a => a.2.1 == n).map fun a => D.tup [.int a.1, .str a.2.2]) = L at *
  simp -implicitDefEqProofs [m_Guard_done_by, g_Guard_done_by, ag, wipeE, cm]
theorem need_time_ev (h : GAt S q g P s c) (m : Int) : m_Guard_need_time [.ref q, .int m] S = if m < s.last then .err "NoTime" S else .ok .non S := by
  have ag := at_g h.cg
  have ap := at_p h.pan.cp
  have cv := clock_ev h.pan
  have ql : gLt (.int m) (.int s.last) S = some (.bl (decide (m < s.last))) := rfl
  by_cases z : m < s.last
  · rw [if_pos z]
    rw [decide_eq_true z] at ql
    simp -implicitDefEqProofs [m_Guard_need_time, g_Guard_need_time, ag, ap, nm_clock, cv, ql]
  · rw [if_neg z]
    rw [decide_eq_false z] at ql
    simp -implicitDefEqProofs [m_Guard_need_time, g_Guard_need_time, ag, ap, nm_clock, cv, ql]
theorem lift_by_ask (h : GAt S q g P s c) {code : Str} (hc : PyData.strOk code = true) {m : Int} (hm : s.last ≤ m) {x : Str} (hx : (askF c code m "lift").1 = .error x) : m_Guard_lift_by [.ref q, .str code, .int m] S = .err x (S.set g.codes (coC (askF c code m "lift").2)) := by
  have ag := at_g h.cg
  have ac := at_c h.cod
  have nt := need_time_ev h m
  rw [if_neg (by omega)] at nt
  have av := ask_ev h.cod h.ok (code := code) (right := "lift") m hc (ofS_ok _)
  unfold resC at av
  rw [hx] at av
  simp only at av
  simp -implicitDefEqProofs [m_Guard_lift_by, g_Guard_lift_by, ag, gm_need_time, nt, ac, av]
theorem set_by_ask (h : GAt S q g P s c) {code : Str} (hc : PyData.strOk code = true) (mode wo : D) {m : Int} (hm : s.last ≤ m) {x : Str} (hx : (askF c code m "set").1 = .error x) : m_Guard_set_by [.ref q, .str code, .int m, mode, wo] S = .err x (S.set g.codes (coC (askF c code m "set").2)) := by
  have ag := at_g h.cg
  have ac := at_c h.cod
  have nt := need_time_ev h m
  rw [if_neg (by omega)] at nt
  have av := ask_ev h.cod h.ok (code := code) (right := "set") m hc (ofS_ok _)
  unfold resC at av
  rw [hx] at av
  simp only at av
  simp -implicitDefEqProofs [m_Guard_set_by, g_Guard_set_by, ag, gm_need_time, nt, ac, av]
/-- the codes allow it -/
theorem lift_by_go (h : GAt S q g P s c) {code : Str} (hc : PyData.strOk code = true) {m : Int} (hm : s.last ≤ m) {n : Str} (hx : (askF c code m "lift").1 = .ok (.str n)) {r : Res D} (hr : m_Panel_lift [.ref g.panel, .int m] (S.set g.codes (coC (askF c code m "lift").2)) = r) :
    (∀ x S', r = .err x S' → m_Guard_lift_by [.ref q, .str code, .int m] S = .err x S') ∧
    (∀ w S' P' s', r = .ok (.str w) S' → Did (S.set g.codes (coC (askF c code m "lift").2)) g.panel P S' P' s' → g.acts.length ≤ 899 → m_Guard_lift_by [.ref q, .str code, .int m] S = .ok (.tup [.str n, .str w]) (S'.set q (guC { g with acts := g.acts ++ [((m, n, ("lift" : Str)) : Act)] }))) := by
  have ag := at_g h.cg
  have ac := at_c h.cod
  have nt := need_time_ev h m
  rw [if_neg (by omega)] at nt
  have av := ask_ev h.cod h.ok (code := code) (right := "lift") m hc (ofS_ok _)
  unfold resC at av
  rw [hx] at av
  simp only at av
  have h1 := h.codes' (ask_ok h.ok code "lift" m)
  have ag1 := at_g h1.cg
  have ap1 := at_p h1.pan.cp
  refine ⟨fun x S' e => ?_, fun w S' P' s' e D hf => ?_⟩
  · rw [e] at hr
    simp -implicitDefEqProofs [m_Guard_lift_by, g_Guard_lift_by, ag, gm_need_time, nt, ac, av, ag1, ap1, nm_lift, hr]
  · rw [e] at hr
    have h2 := h1.step D
    have ag2 := at_g h2.cg
    have ga : gAdd (.lst (g.acts.map actD)) (.lst [.tup [.int m, .str n, .str "lift"]]) S' = some (.lst ((g.acts ++ [((m, n, ("lift" : Str)) : Act)]).map actD)) := by
      show (if _ then _ else _) = _
      rw [if_pos (lim_small (by simp; omega)), List.map_append]
      rfl
    have ra := r_acts g (g.acts ++ [((m, n, ("lift" : Str)) : Act)])
    unfold guC
    generalize (g.acts ++ [((m, n, ("lift" : Str)) : Act)]).map actD = L at *
    simp -implicitDefEqProofs [m_Guard_lift_by, g_Guard_lift_by, ag, gm_need_time, nt, ac, av, ag1, ap1, nm_lift, hr, ag2, ga, ra, lim_small]
theorem set_by_go (h : GAt S q g P s c) {code : Str} (hc : PyData.strOk code = true) (mode wo : D) {m : Int} (hm : s.last ≤ m) {n : Str} (hx : (askF c code m "set").1 = .ok (.str n)) {r : Res D} (hr : m_Panel_arm [.ref g.panel, .int m, mode, wo] (S.set g.codes (coC (askF c code m "set").2)) = r) :
    (∀ x S', r = .err x S' → m_Guard_set_by [.ref q, .str code, .int m, mode, wo] S = .err x S') ∧
    (∀ w S' P' s', r = .ok (.str w) S' → Did (S.set g.codes (coC (askF c code m "set").2)) g.panel P S' P' s' → g.acts.length ≤ 899 → m_Guard_set_by [.ref q, .str code, .int m, mode, wo] S = .ok (.tup [.str n, .str w]) (S'.set q (guC { g with acts := g.acts ++ [((m, n, ("arm" : Str)) : Act)] }))) := by
  have ag := at_g h.cg
  have ac := at_c h.cod
  have nt := need_time_ev h m
  rw [if_neg (by omega)] at nt
  have av := ask_ev h.cod h.ok (code := code) (right := "set") m hc (ofS_ok _)
  unfold resC at av
  rw [hx] at av
  simp only at av
  have h1 := h.codes' (ask_ok h.ok code "set" m)
  have ag1 := at_g h1.cg
  have ap1 := at_p h1.pan.cp
  refine ⟨fun x S' e => ?_, fun w S' P' s' e D hf => ?_⟩
  · rw [e] at hr
    simp -implicitDefEqProofs [m_Guard_set_by, g_Guard_set_by, ag, gm_need_time, nt, ac, av, ag1, ap1, nm_arm, hr]
  · rw [e] at hr
    have h2 := h1.step D
    have ag2 := at_g h2.cg
    have ga : gAdd (.lst (g.acts.map actD)) (.lst [.tup [.int m, .str n, .str "arm"]]) S' = some (.lst ((g.acts ++ [((m, n, ("arm" : Str)) : Act)]).map actD)) := by
      show (if _ then _ else _) = _
      rw [if_pos (lim_small (by simp; omega)), List.map_append]
      rfl
    have ra := r_acts g (g.acts ++ [((m, n, ("arm" : Str)) : Act)])
    unfold guC
    generalize (g.acts ++ [((m, n, ("arm" : Str)) : Act)]).map actD = L at *
    simp -implicitDefEqProofs [m_Guard_set_by, g_Guard_set_by, ag, gm_need_time, nt, ac, av, ag1, ap1, nm_arm, hr, ag2, ga, ra, lim_small]
theorem ggive_ev (h : GAt S q g P s c) {r : Rwc} (k : r.Ok) (h1 : ∀ S, m_is_name [.str r.n] S = .ok (.bl true) S) (h2 : ∀ S, m_is_code [.str r.c] S = .ok (.bl true) S) (h3 : ∀ S, m_are_rights [.tup (r.rs.map .str)] S = .ok (.bl true) S) {d : D} (hd : (giveF c r).1 = .ok d) : m_Guard_give [.ref q, .str r.n, .str r.c, .tup (r.rs.map .str)] S = .ok d (S.set g.codes (coC (giveF c r).2)) := by
  have ag := at_g h.cg
  have ac := at_c h.cod
  have gv := give_ev h.cod h.ok k h1 h2 h3
  unfold resC at gv
  rw [hd] at gv
  simp only at gv
  simp -implicitDefEqProofs [m_Guard_give, g_Guard_give, ag, ac, gv]
end
theorem ginit_ev (S : Store) {pm : Pm} (g : pm.h.Ok) (t r : Int) : m_Guard_init [.ref S.length, hD pm.h, .int pm.lv, .int pm.en, .int pm.rg, .int t, .int r] (S ++ [.ins "Guard" []]) = .ok .non (S ++ [guC ⟨S.length + 1, S.length + 3, []⟩, pC (pc0 pm (S.length + 2)), sC sd0, coC (co0 t r)]) := by
  have iv := init_ev (S := S ++ [.ins "Guard" []]) g
  have cv := cinit_ev (S ++ [.ins "Guard" [("panel", .ref (S.length + 1))], pC (pc0 pm (S.length + 2)), sC sd0]) t r
  simp only [List.length_append, List.length_cons, List.length_nil, Nat.zero_add, List.append_assoc, List.cons_append, List.nil_append, Nat.reduceAdd] at iv cv
  have i1 : ∀ (fs : List (Str × D)) (l : Store), insAt "Guard" (.ref S.length) (S ++ (.ins "Guard" fs :: l)) = some (S.length, fs) := fun fs l => by simp [insAt]
  have s1 : ∀ (c e : Cell) (l : Store), (S ++ c :: l).set S.length e = S ++ e :: l := fun c e l => by simp
  simp -implicitDefEqProofs [m_Guard_init, g_Guard_init, iv, cv, i1, s1, putFD, lim_small, guC, guF]
theorem gmade_at (S : Store) {pm : Pm} (g : pm.h.Ok) (t r : Int) : GAt (S ++ [guC ⟨S.length + 1, S.length + 3, []⟩, pC (pc0 pm (S.length + 2)), sC sd0, coC (co0 t r)]) S.length ⟨S.length + 1, S.length + 3, []⟩ (pc0 pm (S.length + 2)) sd0 (co0 t r) := by
  have A := made_at (S := S ++ [guC ⟨S.length + 1, S.length + 3, []⟩]) g
  simp only [List.length_append, List.length_cons, List.length_nil, Nat.zero_add, List.append_assoc, List.cons_append, List.nil_append, Nat.reduceAdd] at A
  have A2 := A.grow (grow_app [coC (co0 t r)])
  simp only [List.append_assoc, List.cons_append, List.nil_append] at A2
  exact ⟨by simp, A2, by simp, co0_ok t r, by simp, fun _ z => (by cases z)⟩
end BW
namespace BW
open PySem L2
theorem Run.at2 {n : Nat} {S S' : Store} {p : Nat} {P : Pc} {s : Sd} (R : Run n S p P s) (A : At S' p P s) : Run n S' p P s := ⟨A, R.wide, R.bells, R.rows, R.gone, R.coming, R.rok, R.ahead⟩
theorem Run.ok {n : Nat} {S : Store} {p : Nat} {P : Pc} {s s' : Sd} {x : Wo} {t : St} (R : Run n S p P s) (hn : n ≤ 100) (hr : 1 ≤ P.pm.rg) (tf : t.fit) (e : doF P.pm s t = .ok (x, s')) :
    ∃ S' P', panM p t S = .ok (.str x.s) S' ∧ Did S p P S' P' s' ∧ Run (n + 1) S' p P' s' := by
  have h := pan_ev R.at' (by have := R.wide; omega) (by have := R.bells; omega) (by have := R.rows; omega) (by have := R.gone; omega) t tf
  rw [e] at h
  obtain ⟨S', P', h1, h2⟩ := h
  exact ⟨S', P', h1, h2, R.next (do_left hr R.at'.ok e) h2⟩
theorem Run.no {n : Nat} {S : Store} {p : Nat} {P : Pc} {s : Sd} {r : Rf} {t : St} (R : Run n S p P s) (hn : n ≤ 100) (tf : t.fit) (e : doF P.pm s t = .error r) : ∃ S', panM p t S = .err r.s S' ∧ Grow S S' := by
  have h := pan_ev R.at' (by have := R.wide; omega) (by have := R.bells; omega) (by have := R.rows; omega) (by have := R.gone; omega) t tf
  rw [e] at h
  exact h
/-- a guard whose panel did so many steps -/
structure GR (n : Nat) (S : Store) (q : Nat) (g : Gu) (P : Pc) (s : Sd) (c : Co) : Prop where
  at' : GAt S q g P s c
  run : Run n S g.panel P s
/-- .. and a panel that stands as its own -/
structure Two (n : Nat) (S : Store) (q : Nat) (g : Gu) (P : Pc) (s : Sd) (c : Co) (p : Nat) (Q : Pc) : Prop where
  gr : GR n S q g P s c
  run : Run n S p Q s
  pm : Q.pm = P.pm
  ne : g.panel ≠ p
section
variable {n : Nat} {S : Store} {q : Nat} {g : Gu} {P : Pc} {s : Sd} {c : Co} {p : Nat} {Q : Pc}
theorem GR.codes' (h : GR n S q g P s c) {c' : Co} (ok : c'.Ok) : GR n (S.set g.codes (coC c')) q g P s c' := ⟨h.at'.codes' ok, h.run.at2 (h.at'.codes' ok).pan⟩
theorem GR.grow (h : GR n S q g P s c) {S' : Store} (G : Grow S S') : GR n S' q g P s c := ⟨h.at'.grow G, h.run.grow G⟩
theorem GR.more (h : GR n S q g P s c) {k : Nat} (hk : n ≤ k) : GR k S q g P s c := ⟨h.at', h.run.more hk⟩
theorem Two.codes' (T : Two n S q g P s c p Q) {c' : Co} (ok : c'.Ok) : Two n (S.set g.codes (coC c')) q g P s c' p Q := ⟨T.gr.codes' ok, T.run.at2 (T.run.at'.setC T.gr.at'.cod), T.pm, T.ne⟩
theorem Two.grow (T : Two n S q g P s c p Q) {S' : Store} (G : Grow S S') : Two n S' q g P s c p Q := ⟨T.gr.grow G, T.run.grow G, T.pm, T.ne⟩
theorem Two.more (T : Two n S q g P s c p Q) {k : Nat} (hk : n ≤ k) : Two k S q g P s c p Q := ⟨T.gr.more hk, T.run.more hk, T.pm, T.ne⟩
end
theorem rows_okG {l : List D} {n : Nat} (hn : 5 ≤ n) (h : ∀ d ∈ l, RowOk d) : okD (n + 1) (.lst l) = true := by
  rw [ok_lstC, List.all_eq_true]; exact fun d hd => okD_le (h d hd).1 hn
theorem rows_deqG {l : List D} (h : ∀ d ∈ l, RowOk d) : deqs l l = true := by
  induction l with
  | nil => rfl
  | cons a l ih =>
    rw [deqs_cons, (h a List.mem_cons_self).2, ih fun d hd => h d (List.mem_cons_of_mem _ hd)]
    rfl
end BW
namespace BW
open PySem L2
def Gets (o : Out) (v : D) : Prop := ∃ S8, o = .ret v S8
theorem seqK {f g : Stm} {ρ : Env} {S : Store} {v : D} (h : ∀ k : Stm, k = g → Gets (match f ρ S with | .next ρ1 S1 => k ρ1 S1 | o => o) v) : Gets (sSeq f g ρ S) v := h g rfl
theorem frzK {g : Stm} {i : Nat} {ρ : Env} {S : Store} {v : D} (h : ∀ k : Stm, k = g → Gets (sFreeze i k ρ S) v) : Gets (sFreeze i g ρ S) v := h g rfl
@[simp] theorem gets_reti {v u : D} {S : Store} : Gets (.ret u S) v ↔ u = v := ⟨fun ⟨_, e⟩ => by cases e; rfl, fun e => ⟨S, by rw [e]⟩⟩
theorem law_gets {n : Nat} {g : Stm} {ds : List D} {S : Store} {v : D} (h : Gets (g (startE n ds) S) v) : ∃ S', mOf n g ds S = .ok v S' := by
  obtain ⟨S8, e⟩ := h
  exact ⟨S8, mOf_ret e⟩
/-- a loop, by what is done -/
theorem forDn {α : Type} {e : α → D} {t : Tgt} {g : Stm} (I : List α → Env → Store → Prop) : ∀ (xs done : List α) (ρ : Env) (S : Store), I done ρ S →
    (∀ d x r ρ S, done ++ xs = d ++ x :: r → I d ρ S → ∃ ρ1 ρ2 S2, t (e x) ρ = some ρ1 ∧ g ρ1 S = .next ρ2 S2 ∧ I (d ++ [x]) ρ2 S2) → ∃ ρ' S', forL t g (xs.map e) ρ S = .next ρ' S' ∧ I (done ++ xs) ρ' S'
  | [], done, ρ, S, h, _ => ⟨ρ, S, rfl, by simpa using h⟩
  | x :: xs, done, ρ, S, h, hs => by
    obtain ⟨ρ1, ρ2, S2, e1, e2, h2⟩ := hs done x xs ρ S rfl h
    obtain ⟨ρ', S', e3, h3⟩ := forDn I xs (done ++ [x]) ρ2 S2 h2 fun d y r ρ S hd => hs d y r ρ S (by rw [← hd]; simp)
    exact ⟨ρ', S', by rw [List.map_cons]; simp only [forL, e1, e2, e3], by simpa using h3⟩
theorem mid_mem {α : Type} {xs d r : List α} {x : α} (h : [] ++ xs = d ++ x :: r) : x ∈ xs ∧ d.length < xs.length := by
  rw [List.nil_append] at h
  rw [h]
  simp
@[simp] theorem lm0 : (0 ≤ LIM) = True := eq_true (lim_small (by decide))
@[simp] theorem lm1 : (1 ≤ LIM) = True := eq_true (lim_small (by decide))
@[simp] theorem lm2 : (2 ≤ LIM) = True := eq_true (lim_small (by decide))
@[simp] theorem lm3 : (3 ≤ LIM) = True := eq_true (lim_small (by decide))
@[simp] theorem lm4 : (4 ≤ LIM) = True := eq_true (lim_small (by decide))
@[simp] theorem lm5 : (5 ≤ LIM) = True := eq_true (lim_small (by decide))
@[simp] theorem lm6 : (6 ≤ LIM) = True := eq_true (lim_small (by decide))
@[simp] theorem lm7 : (7 ≤ LIM) = True := eq_true (lim_small (by decide))
@[simp] theorem lm8 : (8 ≤ LIM) = True := eq_true (lim_small (by decide))
@[simp] theorem lm9 : (9 ≤ LIM) = True := eq_true (lim_small (by decide))
@[simp] theorem lm10 : (10 ≤ LIM) = True := eq_true (lim_small (by decide))
@[simp] theorem lm11 : (11 ≤ LIM) = True := eq_true (lim_small (by decide))
@[simp] theorem lm12 : (12 ≤ LIM) = True := eq_true (lim_small (by decide))
@[simp] theorem lm13 : (13 ≤ LIM) = True := eq_true (lim_small (by decide))
end BW
namespace BW
open PySem L2
theorem inXS (c : Str) (h : (XS.any (· == c)) = true) : c ∈ XS := by
  obtain ⟨x, h1, h2⟩ := List.any_eq_true.mp h
  rw [beq_iff_eq] at h2
  exact h2 ▸ h1
structure Qs (b : Bool) (s : Sd) : Prop where
  wide : s.wide = []
  on : b = true → s.w = .leaving ∨ s.w = .set
  off : b = false → s.w = .off
theorem wide0 {pm : Pm} {m : Int} {s : Sd} (h : s.wide = []) (e : Int) : wideF pm m s e = s := by
  unfold wideF
  rw [if_neg]
  rintro ⟨_, _, z⟩
  rw [h] at z
  cases z
theorem fold0 {pm : Pm} {m : Int} : ∀ (l : List Int) {s : Sd}, s.wide = [] → l.foldl (wideF pm m) s = s
  | [], _, _ => rfl
  | e :: l, s, h => by
    rw [List.foldl_cons, wide0 h]
    exact fold0 l h
theorem turn51 {pm : Pm} {m : Int} {s : Sd} (h : s.wide = []) (hw : s.w = .leaving) : turnF pm m s = { s with w := .set, fin := none } := by
  unfold turnF
  rw [if_neg (by rw [hw]; decide), if_neg (by rw [hw]; decide)]
  exact fold0 _ h
theorem go51 {pm : Pm} {m : Int} {b : Bool} : ∀ (n : Nat) {s : Sd}, s.Ok pm → Qs b s → Qs b (goF pm m n s) ∧ (goF pm m n s).rows = s.rows
  | 0, s, _, q => ⟨q, rfl⟩
  | n + 1, s, ok, q => by
    unfold goF
    by_cases hd : due m s = true
    · rw [if_pos hd]
      obtain ⟨f, hf, _⟩ := due_fin hd
      have hw : s.w = .leaving := by
        cases b with
        | false => have := ok.idle (.inl (q.off rfl)); rw [hf] at this; cases this
        | true =>
          rcases q.on rfl with z | z
          · exact z
          · have := ok.idle (.inr z); rw [hf] at this; cases this
      have hb : b = true := by
        cases b with
        | true => rfl
        | false => rw [q.off rfl] at hw; cases hw
      rw [turn51 q.wide hw]
      have q' : Qs b ({ s with w := .set, fin := none } : Sd) := ⟨q.wide, fun _ => .inr rfl, fun z => (by rw [hb] at z; cases z)⟩
      have ok' : ({ s with w := .set, fin := none } : Sd).Ok pm := ⟨fun _ => rfl, fun z => (by rcases z with z | z | z <;> cases z), fun z => (by cases z), fun z => (by cases z), ok.mode⟩
      exact go51 n ok' q'
    · rw [if_neg hd]
      exact ⟨q, rfl⟩
theorem beh51 {pm : Pm} {m : Int} {b : Bool} {s : Sd} (ok : s.Ok pm) (q : Qs b s) : Qs b (behF pm m s) ∧ (behF pm m s).rows = s.rows := by
  obtain ⟨h1, h2⟩ := go51 (m := m) 4 ok q
  exact ⟨⟨h1.wide, h1.on, h1.off⟩, h2⟩
theorem ajar51 {h : Hs} {k : Int} {s : Sd} (q : s.wide = []) : ajarB h k [] s.wide = false := by
  unfold ajarB
  rw [List.any_eq_false]
  intro e _ z
  rw [q] at z
  simp [ajarE] at z
/-- it is set -/
theorem arm51 {pm : Pm} {m : Int} {s : Sd} (ok : s.Ok pm) (q : Qs false s) (hm : s.last ≤ m) (hl : 1 ≤ pm.lv) (hk : 0 < pm.h.modes.length) : ∃ s', doF pm s (.arm m 0 (some [])) = .ok (.leaving, s') ∧ Qs true s' ∧ s'.rows.length = s.rows.length + 1 ∧ s'.last = m := by
  obtain ⟨b1, b2⟩ := beh51 (m := m) ok q
  have nd : due m ({ behF pm m s with w := .leaving, fin := some (m + pm.lv), mode := some 0, wo := [] } : Sd) = false := by
    simp [due]
    omega
  have af : armF pm m 0 [] s = { behF pm m s with w := .leaving, fin := some (m + pm.lv), mode := some 0, wo := [] } := by
    unfold armF passF goF
    rw [nd]
    rfl
  refine ⟨logF "arm" (.tup [.int 0, mD []]) (armF pm m 0 [] s), ?_, ⟨?_, fun _ => .inl ?_, fun z => (by cases z)⟩, ?_, ?_⟩
  · simp only [doF]
    rw [if_neg (by omega), if_neg (fun z => z ⟨by omega, by omega⟩), if_neg (fun z => z (by simp [modeOk])), if_neg (fun z => z (b1.off rfl)), ajar51 q.wide, if_neg (by decide), af]
  · rw [af]; exact b1.wide
  · rw [af]; rfl
  · rw [log_len, af]
    show (behF pm m s).rows.length + 1 = _
    rw [b2]
  · rw [af]; rfl
theorem arm51_no {pm : Pm} {m : Int} {s : Sd} (ok : s.Ok pm) (q : Qs true s) (hm : s.last ≤ m) (hk : 0 < pm.h.modes.length) : doF pm s (.arm m 0 (some [])) = .error .notOff := by
  obtain ⟨b1, b2⟩ := beh51 (m := m) ok q
  simp only [doF]
  rw [if_neg (by omega), if_neg (fun z => z ⟨by omega, by omega⟩), if_neg (fun z => z (by simp [modeOk])), if_pos (fun z => by rcases b1.on rfl with y | y <;> rw [y] at z <;> cases z)]
/-- it is lifted -/
theorem lift51 {pm : Pm} {m : Int} {s : Sd} (ok : s.Ok pm) (q : Qs true s) (hm : s.last ≤ m) : ∃ x s', doF pm s (.lift m) = .ok (x, s') ∧ Qs false s' ∧ s'.rows.length = s.rows.length + 1 ∧ s'.last = m := by
  obtain ⟨b1, b2⟩ := beh51 (m := m) ok q
  have no : (behF pm m s).w ≠ .off := fun z => by rcases b1.on rfl with y | y <;> rw [y] at z <;> cases z
  have nr : (behF pm m s).w ≠ .ringing := fun z => by rcases b1.on rfl with y | y <;> rw [y] at z <;> cases z
  have lf : liftF pm m s = { behF pm m s with w := .off, fin := none, mode := none, wo := [] } := by
    unfold liftF
    rw [if_neg nr]
  refine ⟨(behF pm m s).w, logF "lift" .non (liftF pm m s), ?_, ⟨?_, fun z => (by cases z), fun _ => ?_⟩, ?_, ?_⟩
  · simp only [doF]
    rw [if_neg (by omega), if_neg no]
  · rw [lf]; exact b1.wide
  · rw [lf]; rfl
  · rw [log_len, lf]
    show (behF pm m s).rows.length + 1 = _
    rw [b2]
  · rw [lf]; rfl
theorem lift51_no {pm : Pm} {m : Int} {s : Sd} (ok : s.Ok pm) (q : Qs false s) (hm : s.last ≤ m) : doF pm s (.lift m) = .error .notSet := by
  obtain ⟨b1, b2⟩ := beh51 (m := m) ok q
  simp only [doF]
  rw [if_neg (by omega), if_pos (b1.off rfl)]
theorem qa1 (S : Store) : gEq false (.str "arm") (.str "arm") S = some (.bl true) := by kernel_rfl
theorem qa2 (S : Store) : gEq false (.str "lift") (.str "arm") S = some (.bl false) := by kernel_rfl
def armW (b : Bool) : Str := if b = true then "arm" else "lift"
def rightW (b : Bool) : Str := if b = true then "set" else "lift"
def grdB (q : Nat) (b : Bool) (code : Str) (m : Int) : Store → Res D := match b with
  | true => m_Guard_set_by [.ref q, .str code, .int m, .int 0, .tup []]
  | false => m_Guard_lift_by [.ref q, .str code, .int m]
theorem told51_ok {S S' : Store} {q : Nat} {g : Gu} (h : S[q]? = some (guC g)) {b : Bool} {code : Str} {m : Int} {d : D} (e : grdB q b code m S = .ok d S') : m_law_told [.ref q, .str (armW b), .str code, .int m] S = .ok d S' := by
  have ag := at_g h
  have z0 : (0 : Nat) ≤ LIM := Nat.zero_le _
  cases b with
  | true =>
    have e : m_Guard_set_by [.ref q, .str code, .int m, .int 0, .tup []] S = .ok d S' := e
    simp -implicitDefEqProofs [m_law_told, g_law_told, b_law_told_1, sTryB, ag, gm_set_by, e, armW, z0, qa1, qa2]
  | false =>
    have e : m_Guard_lift_by [.ref q, .str code, .int m] S = .ok d S' := e
    simp -implicitDefEqProofs [m_law_told, g_law_told, b_law_told_1, sTryB, ag, gm_lift_by, e, armW, z0, qa1, qa2]
theorem told51_no {S S' : Store} {q : Nat} {g : Gu} (h : S[q]? = some (guC g)) {b : Bool} {code : Str} {m : Int} {x : Str} {k : Int} (e : grdB q b code m S = .err x S') (hx : x ∈ XS) (hk : ∀ r0 r1 r2 r3 S, b_law_told_2 0 x [r0, r1, r2, r3, some (.adr 0), none] S = .ret (.int k) S) : m_law_told [.ref q, .str (armW b), .str code, .int m] S = .ok (.int k) S' := by
  have ag := at_g h
  have z0 : (0 : Nat) ≤ LIM := Nat.zero_le _
  cases b with
  | true =>
    have e : m_Guard_set_by [.ref q, .str code, .int m, .int 0, .tup []] S = .err x S' := e
    simp -implicitDefEqProofs [m_law_told, g_law_told, b_law_told_1, sTryB, ag, gm_set_by, e, armW, hx, hk, z0, qa1, qa2]
  | false =>
    have e : m_Guard_lift_by [.ref q, .str code, .int m] S = .err x S' := e
    simp -implicitDefEqProofs [m_law_told, g_law_told, b_law_told_1, sTryB, ag, gm_lift_by, e, armW, hx, hk, z0, qa1, qa2]
theorem k_wrong (r0 r1 r2 r3 : Option Slot) (S : Store) : b_law_told_2 0 "Wrong" [r0, r1, r2, r3, some (.adr 0), none] S = .ret (.int 0) S := by kernel_rfl
theorem k_right (r0 r1 r2 r3 : Option Slot) (S : Store) : b_law_told_2 0 "NoRight" [r0, r1, r2, r3, some (.adr 0), none] S = .ret (.int 2) S := by kernel_rfl
theorem k_notOff (r0 r1 r2 r3 : Option Slot) (S : Store) : b_law_told_2 0 "NotOff" [r0, r1, r2, r3, some (.adr 0), none] S = .ret (.int 3) S := by kernel_rfl
theorem k_notSet (r0 r1 r2 r3 : Option Slot) (S : Store) : b_law_told_2 0 "NotSet" [r0, r1, r2, r3, some (.adr 0), none] S = .ret (.int 4) S := by kernel_rfl
end BW
namespace BW
open PySem L2
inductive I4 where
  | a | b | c | d
def nmI (i : I4) : Str := match i with
  | .a => "a" | .b => "b" | .c => "c" | .d => "d"
def cdI (i : I4) : Str := match i with
  | .a => "0000" | .b => "11111" | .c => "222222" | .d => "3333"
def rwI (q : I4 → List Str) (i : I4) : Rwc := ⟨nmI i, cdI i, q i⟩
structure Fl where
  a : Bool
  b : Bool
  c : Bool
  d : Bool
def Fl.get (f : Fl) (i : I4) : Bool := match i with
  | .a => f.a | .b => f.b | .c => f.c | .d => f.d
def Fl.clr (f : Fl) (i : I4) : Fl := match i with
  | .a => { f with a := false } | .b => { f with b := false } | .c => { f with c := false } | .d => { f with d := false }
def optL {α : Type} (b : Bool) (x : α) : List α := match b with
  | true => [x]
  | false => []
def lf (f : Fl) (q : I4 → List Str) : List Rwc := optL f.a (rwI q .a) ++ (optL f.b (rwI q .b) ++ (optL f.c (rwI q .c) ++ optL f.d (rwI q .d)))
def nmsF (f : Fl) : List Str := optL f.a ("a" : Str) ++ (optL f.b ("b" : Str) ++ (optL f.c ("c" : Str) ++ optL f.d ("d" : Str)))
theorem lf_names (f : Fl) (q : I4 → List Str) : (lf f q).map (·.n) = nmsF f := by
  obtain ⟨a, b, c, d⟩ := f
  cases a <;> cases b <;> cases c <;> cases d <;> rfl
theorem nms_sort (f : Fl) : ssort (nmsF f) = nmsF f := by
  obtain ⟨a, b, c, d⟩ := f
  cases a <;> cases b <;> cases c <;> cases d <;> decide +kernel
theorem lf_who (f : Fl) (q : I4 → List Str) (i : I4) : whoF (lf f q) (cdI i) = if f.get i = true then some (rwI q i) else none := by
  obtain ⟨a, b, c, d⟩ := f
  match i with
  | .a => cases a <;> cases b <;> cases c <;> cases d <;> kernel_rfl
  | .b => cases a <;> cases b <;> cases c <;> cases d <;> kernel_rfl
  | .c => cases a <;> cases b <;> cases c <;> cases d <;> kernel_rfl
  | .d => cases a <;> cases b <;> cases c <;> cases d <;> kernel_rfl
theorem lf_find (f : Fl) (q : I4 → List Str) (i : I4) : (lf f q).find? (fun r => r.n == nmI i) = if f.get i = true then some (rwI q i) else none := by
  obtain ⟨a, b, c, d⟩ := f
  match i with
  | .a => cases a <;> cases b <;> cases c <;> cases d <;> kernel_rfl
  | .b => cases a <;> cases b <;> cases c <;> cases d <;> kernel_rfl
  | .c => cases a <;> cases b <;> cases c <;> cases d <;> kernel_rfl
  | .d => cases a <;> cases b <;> cases c <;> cases d <;> kernel_rfl
theorem lf_filter (f : Fl) (q : I4 → List Str) (i : I4) : (lf f q).filter (fun r => !(r.n == nmI i)) = lf (f.clr i) q := by
  obtain ⟨a, b, c, d⟩ := f
  match i with
  | .a => cases a <;> cases b <;> cases c <;> cases d <;> kernel_rfl
  | .b => cases a <;> cases b <;> cases c <;> cases d <;> kernel_rfl
  | .c => cases a <;> cases b <;> cases c <;> cases d <;> kernel_rfl
  | .d => cases a <;> cases b <;> cases c <;> cases d <;> kernel_rfl
theorem nms_in (f : Fl) (i : I4) : ((nmsF f).map D.str).any (fun z => deq z (.str (nmI i))) = f.get i := by
  obtain ⟨a, b, c, d⟩ := f
  match i with
  | .a => cases a <;> cases b <;> cases c <;> cases d <;> kernel_rfl
  | .b => cases a <;> cases b <;> cases c <;> cases d <;> kernel_rfl
  | .c => cases a <;> cases b <;> cases c <;> cases d <;> kernel_rfl
  | .d => cases a <;> cases b <;> cases c <;> cases d <;> kernel_rfl
theorem nms_erase (f : Fl) (i : I4) : (nmsF f).erase (nmI i) = nmsF (f.clr i) := by
  obtain ⟨a, b, c, d⟩ := f
  match i with
  | .a => cases a <;> cases b <;> cases c <;> cases d <;> kernel_rfl
  | .b => cases a <;> cases b <;> cases c <;> cases d <;> kernel_rfl
  | .c => cases a <;> cases b <;> cases c <;> cases d <;> kernel_rfl
  | .d => cases a <;> cases b <;> cases c <;> cases d <;> kernel_rfl
theorem nms_mem {f : Fl} {i : I4} (h : f.get i = true) : nmI i ∈ nmsF f := by
  obtain ⟨a, b, c, d⟩ := f
  match i, h with
  | .a, h => cases (show a = true from h); simp [nmsF, optL, nmI]
  | .b, h => cases (show b = true from h); simp [nmsF, optL, nmI]
  | .c, h => cases (show c = true from h); simp [nmsF, optL, nmI]
  | .d, h => cases (show d = true from h); simp [nmsF, optL, nmI]
theorem nms_deq (f : Fl) : deqs ((nmsF f).map .str) ((nmsF f).map .str) = true := by
  obtain ⟨a, b, c, d⟩ := f
  cases a <;> cases b <;> cases c <;> cases d <;> decide +kernel
theorem nm_ok (i : I4) : PyData.strOk (nmI i) = true := by
  match i with
  | .a => exact ofS_ok _
  | .b => exact ofS_ok _
  | .c => exact ofS_ok _
  | .d => exact ofS_ok _
theorem cd_ok (i : I4) : PyData.strOk (cdI i) = true := by
  match i with
  | .a => exact ofS_ok _
  | .b => exact ofS_ok _
  | .c => exact ofS_ok _
  | .d => exact ofS_ok _
theorem GAt.setC2 {S : Store} {q j : Nat} {g : Gu} {P : Pc} {s : Sd} {c : Co} (h : GAt S q g P s c) {c1 c2 : Co} (hj : S[j]? = some (coC c1)) (n1 : j ≠ g.codes) : GAt (S.set j (coC c2)) q g P s c :=
  ⟨by rw [List.getElem?_set_ne (fun e => co_ne_g c1 g (Option.some.inj (hj.symm.trans (by rw [e]; exact h.cg))))]; exact h.cg, h.pan.setC hj, by rw [List.getElem?_set_ne n1]; exact h.cod, h.ok, h.few, h.aok⟩
theorem GAt.setG2 {S : Store} {q j : Nat} {g : Gu} {P : Pc} {s : Sd} {c : Co} (h : GAt S q g P s c) {g1 g2 : Gu} (hj : S[j]? = some (guC g1)) (n1 : j ≠ q) : GAt (S.set j (guC g2)) q g P s c :=
  ⟨by rw [List.getElem?_set_ne n1]; exact h.cg, h.pan.setG hj, by rw [List.getElem?_set_ne (fun e => co_ne_g c g1 (Option.some.inj (h.cod.symm.trans (by rw [← e]; exact hj))))]; exact h.cod, h.ok, h.few, h.aok⟩
structure W5 (n : Nat) (S : Store) (g : Gu) (P : Pc) (s : Sd) (c : Co) (P2 : Pc) (pm : Pm) (f : Fl) (q : I4 → List Str) (is : Bool) (m : Int) : Prop where
  gr : GR n S 0 g P s c
  og : GAt S 4 ⟨5, 7, []⟩ P2 sd0 (co0 99 5)
  gp : g.panel = 1
  gc : g.codes = 3
  pm : P.pm = pm
  qs : Qs is s
  rows : c.rows = lf f q
  tr : c.tries = 99
  ms : c.misses ≤ n
  ms0 : 0 ≤ c.misses
  si : c.since = 0
  sh : c.shut = 0
  la : c.last ≤ m
  sl : s.last ≤ m
  m0 : 0 ≤ m
  al : g.acts.length = s.rows.length
  an : ∀ a ∈ g.acts, a.2.1 ∈ (["a", "b", "c", "d"] : List Str)
  srow : s.rows.length ≤ n
theorem W5.grow {n : Nat} {S S' : Store} {g : Gu} {P : Pc} {s : Sd} {c : Co} {P2 : Pc} {pm : Pm} {f : Fl} {q : I4 → List Str} {is : Bool} {m : Int} (W : W5 n S g P s c P2 pm f q is m) (G : Grow S S') : W5 n S' g P s c P2 pm f q is m :=
  { W with gr := W.gr.grow G, og := W.og.grow G }
theorem W5.more {n k : Nat} {S : Store} {g : Gu} {P : Pc} {s : Sd} {c : Co} {P2 : Pc} {pm : Pm} {f : Fl} {q : I4 → List Str} {is : Bool} {m : Int} (W : W5 n S g P s c P2 pm f q is m) (h : n ≤ k) : W5 k S g P s c P2 pm f q is m :=
  { W with gr := W.gr.more h, ms := by have := W.ms; omega, srow := by have := W.srow; omega }
theorem W5.later {n : Nat} {S : Store} {g : Gu} {P : Pc} {s : Sd} {c : Co} {P2 : Pc} {pm : Pm} {f : Fl} {q : I4 → List Str} {is : Bool} {m m' : Int} (W : W5 n S g P s c P2 pm f q is m) (h : m ≤ m') : W5 n S g P s c P2 pm f q is m' :=
  { W with la := by have := W.la; omega, sl := by have := W.sl; omega, m0 := by have := W.m0; omega }
/-- the codes change -/
theorem W5.cod {n : Nat} {S : Store} {g : Gu} {P : Pc} {s : Sd} {c c' : Co} {P2 : Pc} {pm : Pm} {f f' : Fl} {q : I4 → List Str} {is : Bool} {m : Int} (W : W5 n S g P s c P2 pm f q is m) (ok : c'.Ok) (h1 : c'.rows = lf f' q) (h2 : c'.tries = 99) (h3 : c'.misses ≤ n) (h4 : 0 ≤ c'.misses) (h5 : c'.since = 0) (h6 : c'.shut = 0) (h7 : c'.last ≤ m) :
    W5 n (S.set 3 (coC c')) g P s c' P2 pm f' q is m := by
  have e := W.gr.codes' ok
  rw [W.gc] at e
  have hc := W.gr.at'.cod
  rw [W.gc] at hc
  exact ⟨e, W.og.setC2 hc (by decide), W.gp, W.gc, W.pm, W.qs, h1, h2, h3, h4, h5, h6, h7, W.sl, W.m0, W.al, W.an, W.srow⟩
end BW
namespace BW
open PySem L2
section
variable {n : Nat} {S : Store} {g : Gu} {P : Pc} {s : Sd} {c : Co} {P2 : Pc} {pm : Pm} {f : Fl} {q : I4 → List Str} {is : Bool} {m : Int}
def stB (b : Bool) (m : Int) : St := match b with
  | true => .arm m 0 (some [])
  | false => .lift m
theorem grd51_ask (h : GAt S 0 g P s c) {b : Bool} {code : Str} (ho : PyData.strOk code = true) (hm : s.last ≤ m) {x : Str} (hx : (askF c code m (rightW b)).1 = .error x) : grdB 0 b code m S = .err x (S.set g.codes (coC (askF c code m (rightW b)).2)) := by
  cases b with
  | true => exact set_by_ask h ho _ _ hm hx
  | false => exact lift_by_ask h ho hm hx
theorem grd51_no (h : GAt S 0 g P s c) {b : Bool} {code : Str} (ho : PyData.strOk code = true) (hm : s.last ≤ m) {nm : Str} (hx : (askF c code m (rightW b)).1 = .ok (.str nm)) {x : Str} {S' : Store} (hr : panM g.panel (stB b m) (S.set g.codes (coC (askF c code m (rightW b)).2)) = .err x S') : grdB 0 b code m S = .err x S' := by
  cases b with
  | true => exact (set_by_go h ho (.int 0) (.tup []) hm hx hr).1 x S' rfl
  | false => exact (lift_by_go h ho hm hx hr).1 x S' rfl
theorem grd51_go (h : GAt S 0 g P s c) {b : Bool} {code : Str} (ho : PyData.strOk code = true) (hm : s.last ≤ m) {nm : Str} (hx : (askF c code m (rightW b)).1 = .ok (.str nm)) {x : Str} {S' : Store} {P' : Pc} {s' : Sd} (hr : panM g.panel (stB b m) (S.set g.codes (coC (askF c code m (rightW b)).2)) = .ok (.str x) S') (hD : Did (S.set g.codes (coC (askF c code m (rightW b)).2)) g.panel P S' P' s') (hf : g.acts.length ≤ 899) : grdB 0 b code m S = .ok (.tup [.str nm, .str x]) (S'.set 0 (guC { g with acts := g.acts ++ [((m, nm, armW b) : Act)] })) := by
  cases b with
  | true => exact (set_by_go h ho (.int 0) (.tup []) hm hx hr).2 x S' P' s' rfl hD hf
  | false => exact (lift_by_go h ho hm hx hr).2 x S' P' s' rfl hD hf
theorem arm_ok (b : Bool) : PyData.strOk (armW b) = true := by cases b <;> exact ofS_ok _
theorem tell51 (W : W5 n S g P s c P2 pm f q is m) (hn : n ≤ 40) (hl : 1 ≤ pm.lv) (hr : 1 ≤ pm.rg) (hk : 0 < pm.h.modes.length) (i : I4) (b : Bool) :
    ∃ d S' g' P' s' c' is', m_law_told [.ref 0, .str (armW b), .str (cdI i), .int m] S = .ok d S' ∧ W5 (n + 1) S' g' P' s' c' P2 pm f q is' m ∧
      ((f.get i = false ∧ d = .int 0 ∧ is' = is ∧ s'.rows = s.rows) ∨
       (f.get i = true ∧ (q i).any (· == rightW b) = false ∧ d = .int 2 ∧ is' = is ∧ s'.rows = s.rows) ∨
       (f.get i = true ∧ (q i).any (· == rightW b) = true ∧ is = b ∧ d = .int (if is = true then 3 else 4) ∧ is' = is ∧ s'.rows = s.rows) ∨
       (f.get i = true ∧ (q i).any (· == rightW b) = true ∧ is = !b ∧ (∃ x : Wo, d = .tup [.str (nmI i), .str x.s] ∧ (b = true → x = .leaving)) ∧ is' = b ∧ s'.rows.length = s.rows.length + 1)) := by
  have lk : lockB c m = false := by
    unfold lockB
    rw [W.sh, W.si]
    have := W.m0
    simp
  have who := lf_who f q i
  rw [← W.rows] at who
  have ask : askF c (cdI i) m (rightW b) = if f.get i = true then (if (q i).any (· == rightW b) = true then (.ok (.str (nmI i)), { c with last := m, misses := 0 }) else (.error "NoRight", { c with last := m, misses := 0 })) else (.error "Wrong", { c with last := m, misses := c.misses + 1 }) := by
    unfold askF
    rw [if_neg (by have := W.la; omega), lk, who]
    cases f.get i with
    | false =>
      simp only [Bool.false_eq_true, if_false]
      unfold wrongF
      rw [if_neg (by have := W.tr; have := W.ms; omega)]
    | true => rfl
  have okA := ask_ok W.gr.at'.ok (cdI i) (rightW b) m
  have at0 := W.gr.at'
  have gcod := W.gc
  cases hf : f.get i with
  | false =>
    rw [hf] at ask
    simp only [Bool.false_eq_true, if_false] at ask
    have e := grd51_ask at0 (cd_ok i) W.sl (b := b) (x := "Wrong") (by rw [ask])
    rw [ask] at e okA
    rw [W.gc] at e
    simp only at e okA
    have t := told51_no at0.cg e (inXS _ (by decide +kernel)) k_wrong
    have W1 := W.cod okA W.rows W.tr (c' := { c with last := m, misses := c.misses + 1 }) (n := n)
    exact ⟨_, _, g, P, s, _, is, t, (W.more (Nat.le_succ n)).cod okA W.rows W.tr (by have := W.ms; show c.misses + 1 ≤ ((n + 1 : Nat) : Int); omega) (by have := W.ms0; show 0 ≤ c.misses + 1; omega) W.si W.sh (Int.le_refl _), .inl ⟨rfl, rfl, rfl, rfl⟩⟩
  | true =>
    rw [hf] at ask
    simp only [if_true] at ask
    cases hq : (q i).any (· == rightW b) with
    | false =>
      rw [hq] at ask
      simp only [Bool.false_eq_true, if_false] at ask
      have e := grd51_ask at0 (cd_ok i) W.sl (b := b) (x := "NoRight") (by rw [ask])
      rw [ask] at e okA
      rw [W.gc] at e
      simp only at e okA
      have t := told51_no at0.cg e (inXS _ (by decide +kernel)) k_right
      exact ⟨_, _, g, P, s, _, is, t, (W.more (Nat.le_succ n)).cod okA W.rows W.tr (by show (0 : Int) ≤ ((n + 1 : Nat) : Int); omega) (Int.le_refl _) W.si W.sh (Int.le_refl _), .inr (.inl ⟨rfl, rfl, rfl, rfl, rfl⟩)⟩
    | true =>
      rw [hq] at ask
      simp only [if_true] at ask
      rw [ask] at okA
      simp only at okA
      have W1 := W.cod okA W.rows W.tr (by show (0 : Int) ≤ (n : Int); omega) (Int.le_refl _) W.si W.sh (Int.le_refl _)
      have hx : (askF c (cdI i) m (rightW b)).1 = .ok (.str (nmI i)) := by rw [ask]
      have fit : (stB b m).fit := by cases b <;> simp [stB, St.fit]
      by_cases hb : is = b
      · have er : ∃ r : Rf, doF P.pm s (stB b m) = .error r ∧ r.s ∈ XS ∧ ∀ r0 r1 r2 r3 S, b_law_told_2 0 r.s [r0, r1, r2, r3, some (.adr 0), none] S = .ret (.int (if is = true then 3 else 4)) S := by
          subst hb
          cases is with
          | true => exact ⟨.notOff, by rw [W.pm]; exact arm51_no (by have := at0.pan.ok; rw [W.pm] at this; exact this) W.qs W.sl hk, inXS _ (by decide +kernel), k_notOff⟩
          | false => exact ⟨.notSet, by rw [W.pm]; exact lift51_no (by have := at0.pan.ok; rw [W.pm] at this; exact this) W.qs W.sl, inXS _ (by decide +kernel), k_notSet⟩
        obtain ⟨r, e1, e2, e3⟩ := er
        obtain ⟨S', pe, G⟩ := W1.gr.run.no (by omega) fit e1
        have e := grd51_no at0 (cd_ok i) W.sl (b := b) hx (x := r.s) (S' := S') (by rw [ask, W.gc]; exact pe)
        have t := told51_no at0.cg e e2 e3
        exact ⟨_, _, g, P, s, _, is, t, (W1.grow G).more (Nat.le_succ n), .inr (.inr (.inl ⟨rfl, rfl, hb, rfl, rfl, rfl⟩))⟩
      · have okr : ∃ (x : Wo) (s' : Sd), doF P.pm s (stB b m) = .ok (x, s') ∧ Qs b s' ∧ s'.rows.length = s.rows.length + 1 ∧ s'.last = m ∧ (b = true → x = .leaving) := by
          cases b with
          | true =>
            have : is = false := by cases is with | true => exact absurd rfl hb | false => rfl
            subst this
            obtain ⟨s', h1, h2, h3, h4⟩ := arm51 (m := m) (by have := at0.pan.ok; rw [W.pm] at this; exact this) W.qs W.sl hl hk
            exact ⟨.leaving, s', by rw [W.pm]; exact h1, h2, h3, h4, fun _ => rfl⟩
          | false =>
            have : is = true := by cases is with | false => exact absurd rfl hb | true => rfl
            subst this
            obtain ⟨x, s', h1, h2, h3, h4⟩ := lift51 (m := m) (by have := at0.pan.ok; rw [W.pm] at this; exact this) W.qs W.sl
            exact ⟨x, s', by rw [W.pm]; exact h1, h2, h3, h4, fun z => (by cases z)⟩
        obtain ⟨x, s', e1, q1, l1, m1, x1⟩ := okr
        obtain ⟨S', P', pe, D, R'⟩ := W1.gr.run.ok (by omega) (by rw [W.pm]; exact hr) fit e1
        have hfa : g.acts.length ≤ 899 := by have := W.al; have := W.srow; omega
        have e := grd51_go at0 (cd_ok i) W.sl (b := b) hx (x := x.s) (S' := S') (P' := P') (s' := s') (by rw [ask, W.gc]; exact pe) (by rw [ask, W.gc]; exact D) hfa
        have t := told51_ok at0.cg e
        have G1 : GAt S' 0 g P' s' _ := W1.gr.at'.step D
        have G2 := G1.act (a := (m, nmI i, armW b)) ⟨nm_ok i, arm_ok b⟩ hfa
        have hp1 : (S.set 3 (coC { c with last := m, misses := 0 }))[g.panel]? = some (pC P) := W1.gr.run.at'.cp
        have O1 := W1.og.keep D.keep hp1 (by rw [W.gp]; decide)
        have O2 := O1.setG2 (g2 := { g with acts := g.acts ++ [(m, nmI i, armW b)] }) G1.cg (by decide)
        refine ⟨_, _, { g with acts := g.acts ++ [(m, nmI i, armW b)] }, P', s', _, b, t, ⟨⟨G2, R'.at2 G2.pan⟩, O2, W.gp, W.gc, D.pm.trans W.pm, q1, W.rows, W.tr, by show (0 : Int) ≤ ((n + 1 : Nat) : Int); omega, Int.le_refl _, W.si, W.sh, Int.le_refl _, by rw [m1]; exact Int.le_refl _, W.m0, ?_, ?_, by rw [l1]; have := W.srow; omega⟩, .inr (.inr (.inr ⟨rfl, rfl, ?_, ⟨x, rfl, x1⟩, rfl, l1⟩))⟩
        · show (g.acts ++ [(m, nmI i, armW b)]).length = _
          rw [List.length_append, l1, W.al]
          rfl
        · intro a ha
          rcases List.mem_append.mp ha with z | z
          · exact W.an a z
          · rw [List.mem_singleton.mp z]
            show nmI i ∈ _
            cases i <;> simp [nmI]
        · cases is <;> cases b <;> first | rfl | exact absurd rfl hb
end
end BW
namespace BW
open PySem L2
theorem gnames_ev {S : Store} {q : Nat} {g : Gu} {P : Pc} {s : Sd} {c : Co} (h : GAt S q g P s c) : m_Guard_names [.ref q] S = .ok (.lst ((ssort (c.rows.map (·.n))).map .str)) S := by
  have ag := at_g h.cg
  have ac := at_c h.cod
  have nv := names_ev h.cod h.ok
  generalize (ssort (c.rows.map (·.n))).map D.str = L at *
  simp -implicitDefEqProofs [m_Guard_names, g_Guard_names, ag, ac, nv]
theorem gtake_ev {S : Store} {q : Nat} {g : Gu} {P : Pc} {s : Sd} {c : Co} (h : GAt S q g P s c) {n : Str} (hn : PyData.strOk n = true) {d : D} (hd : (takeF c n).1 = .ok d) : m_Guard_take [.ref q, .str n] S = .ok d (S.set g.codes (coC (takeF c n).2)) := by
  have ag := at_g h.cg
  have ac := at_c h.cod
  have tv := take_ev h.cod h.ok hn
  unfold resC at tv
  rw [hd] at tv
  simp only at tv
  simp -implicitDefEqProofs [m_Guard_take, g_Guard_take, ag, ac, tv]
def four (q : I4 → List Str) : List Rwc := lf ⟨true, true, true, true⟩ q
def heldD (q : I4 → List Str) : D := .dic ((four q).map rwK)
theorem held_ix (q : I4 → List Str) (i : I4) (S : Store) : gIx (heldD q) (.str (nmI i)) S = some (.tup [.str (cdI i), .tup ((q i).map .str)]) := by
  cases i <;> kernel_rfl
theorem row_ix0 (a b : D) (S : Store) : gIx (.tup [a, b]) (.int 0) S = some a := by kernel_rfl
theorem row_ix1 (a b : D) (S : Store) : gIx (.tup [a, b]) (.int 1) S = some b := by kernel_rfl
theorem pick4 {w : Int} (h : 0 ≤ w ∧ w < 4) : ∃ i : I4, ∀ S, gIx (.str "abcd") (.int w) S = some (.str (nmI i)) := by
  obtain ⟨h0, h1⟩ := h
  have : w = 0 ∨ w = 1 ∨ w = 2 ∨ w = 3 := by omega
  rcases this with rfl | rfl | rfl | rfl
  · exact ⟨.a, fun S => by kernel_rfl⟩
  · exact ⟨.b, fun S => by kernel_rfl⟩
  · exact ⟨.c, fun S => by kernel_rfl⟩
  · exact ⟨.d, fun S => by kernel_rfl⟩
theorem pick2 {w : Int} (h : 0 ≤ w ∧ w < 2) : ∃ b : Bool, ∀ S, gIx (.lst [.str "arm", .str "lift"]) (.int w) S = some (.str (armW b)) := by
  obtain ⟨h0, h1⟩ := h
  have : w = 0 ∨ w = 1 := by omega
  rcases this with rfl | rfl
  · exact ⟨true, fun S => by kernel_rfl⟩
  · exact ⟨false, fun S => by kernel_rfl⟩
theorem eq_arm (b : Bool) (S : Store) : gEq false (.str (armW b)) (.str "arm") S = some (.bl b) := by cases b <;> kernel_rfl
theorem eq_bb (a b : Bool) (S : Store) : gEq false (.bl a) (.bl b) S = some (.bl (a == b)) := by cases a <;> cases b <;> kernel_rfl
theorem ne_bb (a b : Bool) (S : Store) : gEq true (.bl a) (.bl b) S = some (.bl (a != b)) := by cases a <;> cases b <;> kernel_rfl
theorem mulX (S : Store) (k : Int) : gMul (.int 4) (.int k) S = some (.int (4 * k)) := by
  show gMul (.int 4) (.int k) S = _
  exact mul_ok S (i := 4) (j := k) (.inl (by decide))
theorem nms_okD (f : Fl) : okD 12 (.lst ((nmsF f).map .str)) = true := by
  obtain ⟨a, b, c, d⟩ := f
  cases a <;> cases b <;> cases c <;> cases d <;> decide +kernel
theorem rs_in {q : I4 → List Str} {i : I4} (hq : (q i).all PyData.strOk = true) (b : Bool) (S : Store) : gIn true (.str (rightW b)) (.tup ((q i).map .str)) S = some (.bl (!(q i).any (· == rightW b))) := by
  rw [in_strs S true _ _ (by cases b <;> exact ofS_ok _) hq, Bool.true_xor]
/-- [told, names] against [due, names] -/
theorem dis_ok {d : D} (h1 : okD 11 d = true) (h2 : deq d d = true) (f : Fl) : (okD 12 (.lst [d, .lst ((nmsF f).map .str)]) && okD 12 (.lst [d, .lst ((nmsF f).map .str)])) = true ∧ deq (.lst [d, .lst ((nmsF f).map .str)]) (.lst [d, .lst ((nmsF f).map .str)]) = true := by
  have n1 : okD 11 (.lst ((nmsF f).map .str)) = true := by
    obtain ⟨a, b, c, d⟩ := f
    cases a <;> cases b <;> cases c <;> cases d <;> decide +kernel
  have n2 := nms_deq f
  constructor
  · simp only [okD, List.all_cons, List.all_nil, h1, Bool.and_true, Bool.true_and]
    simpa [okD] using n1
  · have n2' : PyData.eqvAll (toPys ((nmsF f).map .str)) (toPys ((nmsF f).map .str)) = true := n2
    have h2' : PyData.eqv (toPy d) (toPy d) = true := h2
    simp [deq, toPy, toPys, PyData.eqv, PyData.eqvAll, n2', h2']
theorem logs_eq {l : List D} (h : ∀ d ∈ l, RowOk d) (S : Store) : gEq false (.lst l) (.lst l) S = some (.bl true) := by
  rw [eq_ok S false (rows_okG (n := 11) (by decide) h) (rows_okG (n := 11) (by decide) h)]
  have e : deq (.lst l) (.lst l) = deqs l l := by simp [deq, deqs, toPy, PyData.eqv]
  rw [e, rows_deqG h]
  rfl
theorem eqvAll_len : ∀ {a b : List PyData}, PyData.eqvAll a b = true → a.length = b.length
  | [], [], _ => rfl
  | [], _ :: _, h => by simp [PyData.eqvAll] at h
  | _ :: _, [], h => by simp [PyData.eqvAll] at h
  | x :: a, y :: b, h => by
    simp only [PyData.eqvAll, Bool.and_eq_true] at h
    simp [eqvAll_len h.2]
theorem logs_ne {l l' : List D} (h : ∀ d ∈ l, RowOk d) (h' : ∀ d ∈ l', RowOk d) (hl : l.length = l'.length + 1) (S : Store) : gEq false (.lst l) (.lst l') S = some (.bl false) := by
  rw [eq_ok S false (rows_okG (n := 11) (by decide) h) (rows_okG (n := 11) (by decide) h')]
  have e : deq (.lst l) (.lst l') = false := by
    rw [Bool.eq_false_iff]
    intro z
    have z : PyData.eqvAll (toPys l) (toPys l') = true := by simpa [deq, toPy, PyData.eqv] using z
    have := eqvAll_len z
    rw [toPys_map, toPys_map, List.length_map, List.length_map] at this
    omega
  rw [e]
  rfl
/-- guard.shown().log() -/
theorem slog_ev {n : Nat} {S : Store} {g : Gu} {P : Pc} {s : Sd} {c : Co} (h : GAt S 0 g P s c) : ∃ S1, Grow S S1 ∧ ∀ ρ : BW.Env, ρ[7]? = some (dd (.ref 0)) → fMeth "Panel" "log" 1 m_Panel_log (fMeth "Guard" "shown" 1 m_Guard_shown (fV 7) fNil) fNil ρ S = .ok (.lst s.rows) S1 := by
  obtain ⟨S1, e1, A, G, _⟩ := shown_ev h
  refine ⟨S1, G, fun ρ hρ => ?_⟩
  have ag := at_g h.cg
  have ap := at_p A.cp
  have l := log_ev A
  have fv := fV_at (S := S) hρ
  simp -implicitDefEqProofs [fv, ag, gm_shown, e1, ap, nm_log, l]
end BW
namespace BW
open PySem L2
theorem b2_ev (ns : List Int) (hns : ns.length ≤ 63) {n : Nat} {S : Store} {g : Gu} {P : Pc} {s : Sd} {c : Co} {P2 : Pc} {pm : Pm} {f : Fl} {q : I4 → List Str} {is : Bool} {m : Int} (W : W5 n S g P s c P2 pm f q is m) (hn : n ≤ 40) (hl : 1 ≤ pm.lv) (hr : 1 ≤ pm.rg) (hk : 0 < pm.h.modes.length) (hq : ∀ i, (q i).all PyData.strOk = true) (k : Int) (r1 r2 r6 r9 r12 r13 r14 r15 r16 r17 : Option Slot) :
    ∃ S' g' P' s' c' f' is' m' z12 z13 z14 z15 z16 z17, b_law_2 [dd (.scr ns), r1, r2, dd (heldD q), dd (.int k), some (.own ((nmsF f).map .str)), r6, dd (.ref 0), dd (.ref 4), r9, dd (.int m), dd (.bl is), r12, r13, r14, r15, r16, r17] S =
      .next [dd (.scr ns), r1, r2, dd (heldD q), dd (.int k), some (.own ((nmsF f').map .str)), r6, dd (.ref 0), dd (.ref 4), r9, dd (.int m'), dd (.bl is'), z12, z13, z14, z15, z16, z17] S' ∧ W5 (n + 1) S' g' P' s' c' P2 pm f' q is' m' := by
  have d1 := drawn_ev ns hns (120 + 4 * k) 3 (by decide)
  have t1 := drawn_lt ns (120 + 4 * k) (many := 3) (by decide)
  have d2 := drawn_ev ns hns (121 + 4 * k) 4 (by decide)
  have t2 := drawn_lt ns (121 + 4 * k) (many := 4) (by decide)
  have d3 := drawn_ev ns hns (122 + 4 * k) 2 (by decide)
  have t3 := drawn_lt ns (122 + 4 * k) (many := 2) (by decide)
  have d4 := drawn_ev ns hns (123 + 4 * k) 5 (by decide)
  generalize drawnF ns (120 + 4 * k) 3 = w1 at *
  generalize drawnF ns (121 + 4 * k) 4 = w2 at *
  generalize drawnF ns (122 + 4 * k) 2 = w3 at *
  generalize drawnF ns (123 + 4 * k) 5 = w4 at *
  obtain ⟨i, hi⟩ := pick4 t2
  obtain ⟨b, hb⟩ := pick2 t3
  obtain ⟨S1, G1, l1⟩ := slog_ev (n := n) W.gr.at'
  have W1 := (W.grow G1).later (m' := m + w1) (by omega)
  obtain ⟨d, S2, g2, P2', s2, c2, is2, td, W2, cs⟩ := tell51 W1 hn hl hr hk i b
  obtain ⟨S3, G3, l3⟩ := slog_ev (n := n) W2.gr.at'
  have W3 := W2.grow G3
  have nv := gnames_ev W2.gr.at'
  rw [W2.rows, lf_names, nms_sort] at nv
  have ag2 := at_g W2.gr.at'.cg
  have ag3 := at_g W3.gr.at'.cg
  have hx := held_ix q i
  have ri := rs_in (hq i) b
  have nk := nms_okD f
  have ni := nms_in f i
  have no := nm_ok i
  have ea := eq_arm b
  have rok1 := W1.gr.run.rok
  have rok2 := W2.gr.run.rok
  -- what is due is what was told
  have du : ∃ same : Bool, okD 11 d = true ∧ deq d d = true ∧ isIntD d = some same ∧ (∀ S, gEq false (.lst s2.rows) (.lst s.rows) S = some (.bl same)) := by
    rcases cs with ⟨_, rfl, _, e⟩ | ⟨_, _, rfl, _, e⟩ | ⟨_, _, _, rfl, _, e⟩ | ⟨_, _, _, ⟨x, rfl, _⟩, _, e⟩
    · exact ⟨true, rfl, by rw [deq_int]; simp, rfl, fun S => by rw [e]; exact logs_eq rok1 S⟩
    · exact ⟨true, rfl, by rw [deq_int]; simp, rfl, fun S => by rw [e]; exact logs_eq rok1 S⟩
    · exact ⟨true, rfl, by rw [deq_int]; simp, rfl, fun S => by rw [e]; exact logs_eq rok1 S⟩
    · refine ⟨false, by simp [okD, no], ?_, rfl, fun S => logs_ne rok2 rok1 e S⟩
      simp [deq, toPy, toPys, PyData.eqv, PyData.eqvAll]
  obtain ⟨same, o1, o2, o3, lg⟩ := du
  obtain ⟨dk1, dk2⟩ := dis_ok o1 o2 f
  -- the end of the turn
  have tk : ∀ (f : Fl) , True := fun _ => trivial
  generalize hNL : (nmsF f).map D.str = NL at *
  unfold b_law_2
  rw [seq_next (ρ1 := [dd (.scr ns), r1, r2, dd (heldD q), dd (.int k), some (.own NL), r6, dd (.ref 0), dd (.ref 4), r9, dd (.int (m + w1)), dd (.bl is), r12, r13, r14, r15, r16, r17]) (S1 := S) (by
    simp -implicitDefEqProofs [mulX, d1])]
  rw [seq_next (ρ1 := [dd (.scr ns), r1, r2, dd (heldD q), dd (.int k), some (.own NL), r6, dd (.ref 0), dd (.ref 4), r9, dd (.int (m + w1)), dd (.bl is), dd (.str (nmI i)), r13, r14, r15, r16, r17]) (S1 := S) (by
    simp -implicitDefEqProofs [mulX, d2, hi])]
  rw [seq_next (ρ1 := [dd (.scr ns), r1, r2, dd (heldD q), dd (.int k), some (.own NL), r6, dd (.ref 0), dd (.ref 4), r9, dd (.int (m + w1)), dd (.bl is), dd (.str (nmI i)), dd (.str (armW b)), r14, r15, r16, r17]) (S1 := S) (by
    have z2 : (2 : Nat) ≤ LIM := lim_small (by decide)
    simp -implicitDefEqProofs [mulX, d3, hb, z2])]
  rw [seq_next (ρ1 := [dd (.scr ns), r1, r2, dd (heldD q), dd (.int k), some (.own NL), r6, dd (.ref 0), dd (.ref 4), r9, dd (.int (m + w1)), dd (.bl is), dd (.str (nmI i)), dd (.str (armW b)), dd (.lst s.rows), r15, r16, r17]) (S1 := S1) (by
    unfold sSet
    rw [l1 _ rfl]
    rfl)]
  rw [seq_next (ρ1 := [dd (.scr ns), r1, r2, dd (heldD q), dd (.int k), some (.own NL), r6, dd (.ref 0), dd (.ref 4), r9, dd (.int (m + w1)), dd (.bl is), dd (.str (nmI i)), dd (.str (armW b)), dd (.lst s.rows), dd d, r16, r17]) (S1 := S2) (by
    generalize heldD q = HD at *
    simp -implicitDefEqProofs [hx, row_ix0, td])]
  rw [seq_next (ρ1 := [dd (.scr ns), r1, r2, dd (heldD q), dd (.int k), some (.own NL), r6, dd (.ref 0), dd (.ref 4), r9, dd (.int (m + w1)), dd (.bl is), dd (.str (nmI i)), dd (.str (armW b)), dd (.lst s.rows), dd d, dd (.str (rightW b)), r17]) (S1 := S2) (by
    cases b with
    | true => simp -implicitDefEqProofs [ea, rightW]
    | false => simp -implicitDefEqProofs [ea, rightW])]
  rw [seq_next (ρ1 := [dd (.scr ns), r1, r2, dd (heldD q), dd (.int k), some (.own NL), r6, dd (.ref 0), dd (.ref 4), r9, dd (.int (m + w1)), dd (.bl is2), dd (.str (nmI i)), dd (.str (armW b)), dd (.lst s.rows), dd d, dd (.str (rightW b)), dd d]) (S1 := S2) (by
    generalize heldD q = HD at *
    have z2 : (2 : Nat) ≤ LIM := lim_small (by decide)
    rcases cs with ⟨e1, rfl, rfl, e⟩ | ⟨e1, e2, rfl, rfl, e⟩ | ⟨e1, e2, e3, rfl, rfl, e⟩ | ⟨e1, e2, e3, ⟨x, rfl, hx'⟩, rfl, e⟩
    · rw [e1] at ni
      simp -implicitDefEqProofs [ni, nk, no]
    · rw [e1] at ni
      rw [e2] at ri
      simp -implicitDefEqProofs [ni, nk, no, hx, row_ix1, ri]
    · rw [e1] at ni
      rw [e2] at ri
      subst e3
      cases is2 with
      | true => simp -implicitDefEqProofs [ni, nk, no, hx, row_ix1, ri, ea, eq_bb]
      | false => simp -implicitDefEqProofs [ni, nk, no, hx, row_ix1, ri, ea, eq_bb]
    · rw [e1] at ni
      rw [e2] at ri
      subst e3
      cases is2 with
      | true =>
        have := hx' rfl
        subst this
        simp -implicitDefEqProofs [ni, nk, no, hx, row_ix1, ri, ea, eq_bb, z2, Wo.s]
      | false => simp -implicitDefEqProofs [ni, nk, no, hx, row_ix1, ri, ea, eq_bb, z2, isTupD])]
  have sl := l3 [dd (.scr ns), r1, r2, dd (heldD q), dd (.int k), some (.own NL), r6, dd (.ref 0), dd (.ref 4), r9, dd (.int (m + w1)), dd (.bl is2), dd (.str (nmI i)), dd (.str (armW b)), dd (.lst s.rows), dd d, dd (.str (rightW b)), dd d] rfl
  rw [seq_next (ρ1 := [dd (.scr ns), r1, r2, dd (heldD q), dd (.int k), some (.own NL), r6, dd (.ref 0), dd (.ref 4), r9, dd (.int (m + w1)), dd (.bl is2), dd (.str (nmI i)), dd (.str (armW b)), dd (.lst s.rows), dd d, dd (.str (rightW b)), dd d]) (S1 := S3) (by
    generalize fMeth "Panel" "log" 1 m_Panel_log (fMeth "Guard" "shown" 1 m_Guard_shown (fV 7) fNil) fNil = SL at *
    generalize heldD q = HD at *
    have z2 : (2 : Nat) ≤ LIM := lim_small (by decide)
    rw [Bool.and_self] at dk1
    have e9 : (same != same) = false := by cases same <;> rfl
    simp -implicitDefEqProofs [-ok_lstC, fEqDis, ag2, gm_names, nv, z2, dk1, dk2, sl, lg, o3, ne_bb, e9])]
  -- somebody may be taken away
  have ag3' := ag3
  have tf : f.get i = true → takeF c2 (nmI i) = (.ok (.tup [.str (cdI i), .tup ((q i).map .str)]), { c2 with rows := lf (f.clr i) q }) := fun h => by
    unfold takeF
    rw [W2.rows, lf_find, h]
    simp only [if_true]
    rw [lf_filter]
    rfl
  have okT := take_ok W2.gr.at'.ok (nmI i)
  by_cases h5 : w4 = 0 ∧ f.get i = true
  · obtain ⟨rfl, hg⟩ := h5
    have e := tf hg
    have gt := gtake_ev W3.gr.at' (n := nmI i) (nm_ok i) (d := .tup [.str (cdI i), .tup ((q i).map .str)]) (by rw [e])
    rw [e, W3.gc] at gt
    rw [e] at okT
    simp only at gt okT
    have W4 := W3.cod okT (f' := f.clr i) rfl W3.tr W3.ms W3.ms0 W3.si W3.sh W3.la
    have qq : ∀ S, gEq true (.tup [.str (cdI i), .tup ((q i).map .str)]) (.tup [.str (cdI i), .tup ((q i).map .str)]) S = some (.bl false) := fun S => by
      have k1 : okD 12 (.tup [.str (cdI i), .tup ((q i).map .str)]) = true := by
        simp only [okD, List.all_cons, List.all_nil, List.all_map, Bool.and_true, cd_ok, Bool.true_and]
        exact hq i
      have k2 : deq (.tup [.str (cdI i), .tup ((q i).map .str)]) (.tup [.str (cdI i), .tup ((q i).map .str)]) = true := by
        have st : ∀ l : List Str, PyData.eqvAll (toPys (l.map D.str)) (toPys (l.map D.str)) = true := fun l => by
          induction l with
          | nil => rfl
          | cons x l ih => simp [toPys, toPy, PyData.eqvAll, PyData.eqv, ih]
        simp [deq, toPy, toPys, PyData.eqv, PyData.eqvAll, st]
      rw [eq_ok S true k1 k1, k2]
      rfl
    have er : (nmsF f).erase (nmI i) = nmsF (f.clr i) := nms_erase f i
    have me : nmI i ∈ nmsF f := nms_mem hg
    have sd : strsD? NL = some (nmsF f) := by rw [← hNL]; exact strsD_map _
    rw [hg] at ni
    refine ⟨_, _, _, _, _, f.clr i, is2, m + w1, dd (.str (nmI i)), dd (.str (armW b)), dd (.lst s.rows), dd d, dd (.str (rightW b)), dd d, ?_, W4⟩
    generalize (Cell.ins "Codes" (coF { c2 with rows := lf (f.clr i) q })) = CC at *
    generalize heldD q = HD at *
    generalize D.tup ((q i).map D.str) = RS at *
    simp -implicitDefEqProofs [mulX, d4, ni, nk, no, sRemoveS, sd, me, er, ag3, gm_take, gt, hx, qq]
  · refine ⟨S3, _, _, _, _, f, is2, m + w1, dd (.str (nmI i)), dd (.str (armW b)), dd (.lst s.rows), dd d, dd (.str (rightW b)), dd d, ?_, W3⟩
    rw [hNL]
    by_cases h4 : w4 = 0
    · have hg : f.get i = false := by
        cases hh : f.get i with
        | false => rfl
        | true => exact absurd ⟨h4, hh⟩ h5
      rw [hg] at ni
      subst h4
      generalize heldD q = HD at *
      simp -implicitDefEqProofs [mulX, d4, ni, nk, no]
    · generalize heldD q = HD at *
      simp -implicitDefEqProofs [mulX, d4, h4]
end BW
namespace BW
open PySem L2
/-- rights as they are drawn -/
theorem pickR {w : Int} (h : 0 ≤ w ∧ w < 4) : ∃ q : List Str, q.all PyData.strOk = true ∧ (∀ S, gIx (.lst [.tup [], .tup [.str "lift"], .tup [.str "set"], .tup [.str "lift", .str "set"]]) (.int w) S = some (.tup (q.map .str))) ∧ ∀ S, m_are_rights [.tup (q.map .str)] S = .ok (.bl true) S := by
  obtain ⟨h0, h1⟩ := h
  have : w = 0 ∨ w = 1 ∨ w = 2 ∨ w = 3 := by omega
  rcases this with rfl | rfl | rfl | rfl
  · exact ⟨[], rfl, fun S => by kernel_rfl, fun S => by kernel_rfl⟩
  · exact ⟨["lift"], by decide +kernel, fun S => by kernel_rfl, fun S => by kernel_rfl⟩
  · exact ⟨["set"], by decide +kernel, fun S => by kernel_rfl, fun S => by kernel_rfl⟩
  · exact ⟨["lift", "set"], by decide +kernel, fun S => by kernel_rfl, fun S => by kernel_rfl⟩
theorem nm_is (i : I4) (S : Store) : m_is_name [.str (nmI i)] S = .ok (.bl true) S := by cases i <;> kernel_rfl
theorem cd_is (i : I4) (S : Store) : m_is_code [.str (cdI i)] S = .ok (.bl true) S := by cases i <;> kernel_rfl
theorem val_app {kvs : List (Key × D)} {k : Key} {v : D} (h : valD kvs k = none) : valD (kvs ++ [(k, v)]) k = some v := by
  unfold valD at h ⊢
  rw [Option.map_eq_none_iff] at h
  rw [List.find?_append, h]
  simp
/-- somebody gets a code -/
theorem b1_ev (ns : List Int) (hns : ns.length ≤ 63) {k : Int} (i : I4) {S : Store} {g : Gu} {P : Pc} {s : Sd} {c : Co} (h : GAt S 0 g P s c) (hg : g.codes = 3) (hix : ∀ S, gIx (.str "abcd") (.int k) S = some (.str (nmI i)))
    {x : D} {y z : Int} (e1 : ∀ S, gStr [.int k] S = some x) (e2 : ∀ S, gMod (.int k) (.int 3) S = some (.int y)) (e3 : 4 + y = z) (e4 : ∀ S, gMulX x (.int z) S = some (.str (cdI i)))
    {kvs : List (Key × D)} (hl : kvs.length < 10) (hnew : valD kvs (.inr (nmI i)) = none) (hn : nmI i ∉ c.rows.map (·.n)) (hw : whoF c.rows (cdI i) = none) (few : c.rows.length ≤ 30) (r1 r2 r5 r6 r8 r9 r10 r11 r12 r13 r14 r15 r16 r17 : Option Slot) :
    ∃ (q : List Str) (z9 : Option Slot), q.all PyData.strOk = true ∧ b_law_1 [dd (.scr ns), r1, r2, some (.ownd kvs), dd (.int k), r5, r6, dd (.ref 0), r8, r9, r10, r11, r12, r13, r14, r15, r16, r17] S =
      .next [dd (.scr ns), r1, r2, some (.ownd (kvs ++ [rwK ⟨nmI i, cdI i, q⟩])), dd (.int k), r5, r6, dd (.ref 0), r8, z9, r10, r11, r12, r13, r14, r15, r16, r17] (S.set 3 (coC { c with rows := c.rows ++ [⟨nmI i, cdI i, q⟩] })) ∧
      GAt (S.set 3 (coC { c with rows := c.rows ++ [⟨nmI i, cdI i, q⟩] })) 0 g P s { c with rows := c.rows ++ [⟨nmI i, cdI i, q⟩] } := by
  have d1 := drawn_ev ns hns (111 + k) 4 (by decide)
  have t1 := drawn_lt ns (111 + k) (many := 4) (by decide)
  generalize drawnF ns (111 + k) 4 = w at *
  obtain ⟨q, q1, q2, q3⟩ := pickR t1
  have kok : (⟨nmI i, cdI i, q⟩ : Rwc).Ok := ⟨nm_ok i, cd_ok i, q1⟩
  have gf : giveF c ⟨nmI i, cdI i, q⟩ = (.ok (.int ((c.rows.length + 1 : Nat) : Int)), { c with rows := c.rows ++ [⟨nmI i, cdI i, q⟩] }) := by
    unfold giveF
    rw [if_neg (by simp only [hw, Option.isSome_none]; rintro (z | z); exact hn z; cases z)]
  have gv := ggive_ev h kok (nm_is i) (cd_is i) q3 (by rw [gf])
  have go := give_ok h.ok kok (by omega)
  rw [gf] at gv go
  rw [hg] at gv
  simp only at gv go
  have h2 := h.codes' go
  rw [hg] at h2
  have ag := at_g h.cg
  have pd := putD_new (v := rwD ⟨nmI i, cdI i, q⟩) hnew
  have vd : valD (kvs ++ [(.inr (nmI i), rwD ⟨nmI i, cdI i, q⟩)]) (.inr (nmI i)) = some (rwD ⟨nmI i, cdI i, q⟩) := by
    exact val_app hnew
  have rd : D.tup [.str (cdI i), .tup (q.map .str)] = rwD ⟨nmI i, cdI i, q⟩ := rfl
  have rx : ∀ S, gIx (rwD ⟨nmI i, cdI i, q⟩) (.int 0) S = some (.str (cdI i)) := fun S => row_ix0 _ _ S
  refine ⟨q, dd (.tup (q.map .str)), q1, ?_, h2⟩
  have hl' : kvs.length < LIM := limlt_small (by omega)
  have z4 : (4 : Nat) ≤ LIM := lim_small (by decide)
  have z2 : (2 : Nat) ≤ LIM := lim_small (by decide)
  have z1 : (1 : Nat) ≤ LIM := lim_small (by decide)
  have z0 : (0 : Nat) ≤ LIM := Nat.zero_le _
  have ek : rwK ⟨nmI i, cdI i, q⟩ = (.inr (nmI i), rwD ⟨nmI i, cdI i, q⟩) := rfl
  rw [ek]
  generalize S.set 3 (coC { c with rows := c.rows ++ [⟨nmI i, cdI i, q⟩] }) = S1 at *
  generalize q.map D.str = RS at *
  generalize rwD ⟨nmI i, cdI i, q⟩ = RD at *
  simp -implicitDefEqProofs [b_law_1, sPutOwnD, fIxOwnD, d1, q2, hix, e1, e2, e3, e4, keyD, hl', pd, rd, vd, rx, ag, gm_give, gv, z4, z2, z1, z0]
end BW
namespace BW
open PySem L2
theorem acts_sum : ∀ (l : List Act), (∀ a ∈ l, a.2.1 ∈ (["a", "b", "c", "d"] : List Str)) → (l.filter fun a => a.2.1 == ("a" : Str)).length + ((l.filter fun a => a.2.1 == ("b" : Str)).length + ((l.filter fun a => a.2.1 == ("c" : Str)).length + (l.filter fun a => a.2.1 == ("d" : Str)).length)) = l.length
  | [], _ => rfl
  | a :: l, h => by
    have ih := acts_sum l fun b hb => h b (List.mem_cons_of_mem _ hb)
    have ha := h a List.mem_cons_self
    have n1 : (("a" : Str) == ("b" : Str)) = false := by decide +kernel
    have n2 : (("a" : Str) == ("c" : Str)) = false := by decide +kernel
    have n3 : (("a" : Str) == ("d" : Str)) = false := by decide +kernel
    have n4 : (("b" : Str) == ("a" : Str)) = false := by decide +kernel
    have n5 : (("b" : Str) == ("c" : Str)) = false := by decide +kernel
    have n6 : (("b" : Str) == ("d" : Str)) = false := by decide +kernel
    have n7 : (("c" : Str) == ("a" : Str)) = false := by decide +kernel
    have n8 : (("c" : Str) == ("b" : Str)) = false := by decide +kernel
    have n9 : (("c" : Str) == ("d" : Str)) = false := by decide +kernel
    have na : (("d" : Str) == ("a" : Str)) = false := by decide +kernel
    have nb : (("d" : Str) == ("b" : Str)) = false := by decide +kernel
    have nc : (("d" : Str) == ("c" : Str)) = false := by decide +kernel
    simp only [List.mem_cons, List.not_mem_nil, or_false] at ha
    simp only [List.filter_cons]
    rcases ha with e | e | e | e <;> rw [e] <;> simp only [beq_self_eq_true, n1, n2, n3, n4, n5, n6, n7, n8, n9, na, nb, nc, if_true, Bool.false_eq_true, if_false, List.length_cons] <;> omega
theorem forL_nil (t : Tgt) (g : Stm) (ρ : BW.Env) (S : Store) : forL t g [] ρ S = .next ρ S := rfl
theorem forL_cons {t : Tgt} {g : Stm} {x : D} {xs : List D} {ρ ρ1 ρ2 : BW.Env} {S S2 : Store} (h1 : t x ρ = some ρ1) (h2 : g ρ1 S = .next ρ2 S2) : forL t g (x :: xs) ρ S = forL t g xs ρ2 S2 := by simp only [forL, h1, h2]
theorem lawOk : LawOk m_law := by
  intro ns hn
  have eh := house_ev ns hn 0 []
  have g := houseF_ok ns 0
  generalize houseF ns 0 = h at *
  have d0 := drawn_ev ns hn 110 9 (by decide) []
  have t0 := drawn_lt ns 110 (many := 9) (by decide)
  generalize drawnF ns 110 9 = w0 at *
  generalize hlv : 1 + w0 = lv at *
  generalize hpm : (⟨h, lv, 5, 5⟩ : Pm) = pm at *
  have gok : pm.h.Ok := by rw [← hpm]; exact g
  have plv : pm.lv = lv := by rw [← hpm]
  have pen : pm.en = 5 := by rw [← hpm]
  have prg : pm.rg = 5 := by rw [← hpm]
  have mk1 : m_Guard_init [.ref 0, hD pm.h, .int pm.lv, .int pm.en, .int pm.rg, .int 99, .int 5] [.ins "Guard" []] = .ok .non [guC ⟨1, 3, []⟩, pC (pc0 pm 2), sC sd0, coC (co0 99 5)] := ginit_ev [] (pm := pm) gok 99 5
  have G0 : GAt [guC ⟨1, 3, []⟩, pC (pc0 pm 2), sC sd0, coC (co0 99 5)] 0 ⟨1, 3, []⟩ (pc0 pm 2) sd0 (co0 99 5) := gmade_at [] (pm := pm) gok 99 5
  have R0 := made_run (S := ([] : Store)) (pm := pm) gok
  generalize hS0 : ([guC ⟨1, 3, []⟩, pC (pc0 pm 2), sC sd0, coC (co0 99 5)] : Store) = S0 at *
  have l0 : S0.length = 4 := by rw [← hS0]; rfl
  have mk2 := ginit_ev S0 (pm := pm) gok 99 5
  have O1 := gmade_at S0 (pm := pm) gok 99 5
  rw [l0] at mk2 O1
  have G1 := G0.grow (grow_app [guC ⟨4 + 1, 4 + 3, []⟩, pC (pc0 pm (4 + 2)), sC sd0, coC (co0 99 5)])
  generalize hS1 : S0 ++ [guC ⟨4 + 1, 4 + 3, []⟩, pC (pc0 pm (4 + 2)), sC sd0, coC (co0 99 5)] = S1 at *
  rw [plv, pen, prg] at mk1 mk2
  -- four people
  have i0 : ∀ S, gIx (.str "abcd") (.int 0) S = some (.str (nmI .a)) := fun S => by kernel_rfl
  have i1 : ∀ S, gIx (.str "abcd") (.int 1) S = some (.str (nmI .b)) := fun S => by kernel_rfl
  have i2 : ∀ S, gIx (.str "abcd") (.int 2) S = some (.str (nmI .c)) := fun S => by kernel_rfl
  have i3 : ∀ S, gIx (.str "abcd") (.int 3) S = some (.str (nmI .d)) := fun S => by kernel_rfl
  obtain ⟨qa, z1, ka, v1, A1⟩ := b1_ev ns hn .a G1 rfl i0 (x := .str "0") (y := 0) (z := 4) (fun S => by kernel_rfl) (fun S => by kernel_rfl) rfl (fun S => by kernel_rfl) (kvs := []) (by decide) rfl (by simp [co0]) rfl (by simp [co0]) (dd (hD pm.h)) (dd (.int lv)) none none (dd (.ref 4)) none none none none none none none none none
  have O2 := O1.setC2 (c2 := { co0 99 5 with rows := (co0 99 5).rows ++ [⟨nmI .a, cdI .a, qa⟩] }) G1.cod (by decide)
  obtain ⟨qb, z2, kb, v2, A2⟩ := b1_ev ns hn .b A1 rfl i1 (x := .str "1") (y := 1) (z := 5) (fun S => by kernel_rfl) (fun S => by kernel_rfl) rfl (fun S => by kernel_rfl) (kvs := [rwK ⟨nmI .a, cdI .a, qa⟩]) (by simp) (by kernel_rfl) (show nmI .b ∉ ([nmI .a] : List Str) by decide +kernel) (by kernel_rfl) (by simp [co0]) (dd (hD pm.h)) (dd (.int lv)) none none (dd (.ref 4)) z1 none none none none none none none none
  have O3 := O2.setC2 (c2 := { co0 99 5 with rows := [⟨nmI .a, cdI .a, qa⟩] ++ [⟨nmI .b, cdI .b, qb⟩] }) A1.cod (by decide)
  obtain ⟨qc, z3, kc, v3, A3⟩ := b1_ev ns hn .c A2 rfl i2 (x := .str "2") (y := 2) (z := 6) (fun S => by kernel_rfl) (fun S => by kernel_rfl) rfl (fun S => by kernel_rfl) (kvs := [rwK ⟨nmI .a, cdI .a, qa⟩, rwK ⟨nmI .b, cdI .b, qb⟩]) (by simp) (by kernel_rfl) (show nmI .c ∉ ([nmI .a, nmI .b] : List Str) by decide +kernel) (by kernel_rfl) (by simp [co0]) (dd (hD pm.h)) (dd (.int lv)) none none (dd (.ref 4)) z2 none none none none none none none none
  have O4 := O3.setC2 (c2 := { co0 99 5 with rows := ([⟨nmI .a, cdI .a, qa⟩] ++ [⟨nmI .b, cdI .b, qb⟩]) ++ [⟨nmI .c, cdI .c, qc⟩] }) A2.cod (by decide)
  obtain ⟨qd, z4, kd, v4, A4⟩ := b1_ev ns hn .d A3 rfl i3 (x := .str "3") (y := 0) (z := 4) (fun S => by kernel_rfl) (fun S => by kernel_rfl) rfl (fun S => by kernel_rfl) (kvs := [rwK ⟨nmI .a, cdI .a, qa⟩, rwK ⟨nmI .b, cdI .b, qb⟩, rwK ⟨nmI .c, cdI .c, qc⟩]) (by simp) (by kernel_rfl) (show nmI .d ∉ ([nmI .a, nmI .b, nmI .c] : List Str) by decide +kernel) (by kernel_rfl) (by simp [co0]) (dd (hD pm.h)) (dd (.int lv)) none none (dd (.ref 4)) z3 none none none none none none none none
  have O5 := O4.setC2 (c2 := { co0 99 5 with rows := (([⟨nmI .a, cdI .a, qa⟩] ++ [⟨nmI .b, cdI .b, qb⟩]) ++ [⟨nmI .c, cdI .c, qc⟩]) ++ [⟨nmI .d, cdI .d, qd⟩] }) A3.cod (by decide)
  have hq : ∃ q : I4 → List Str, q .a = qa ∧ q .b = qb ∧ q .c = qc ∧ q .d = qd := ⟨fun i => match i with | .a => qa | .b => qb | .c => qc | .d => qd, rfl, rfl, rfl, rfl⟩
  obtain ⟨q, rfl, rfl, rfl, rfl⟩ := hq
  have hqk : ∀ i, (q i).all PyData.strOk = true := fun i => by cases i <;> assumption
  have W0 : W5 0 _ ⟨1, 3, []⟩ (pc0 pm 2) sd0 _ (pc0 pm 6) pm ⟨true, true, true, true⟩ q false 0 :=
    ⟨⟨A4, ⟨A4.pan, R0.wide, R0.bells, R0.rows, by simp [pc0], rfl, R0.rok, R0.ahead⟩⟩, O5, rfl, rfl, rfl, ⟨rfl, fun z => (by cases z), fun _ => rfl⟩, rfl, rfl, Int.le_refl _, Int.le_refl _, rfl, rfl, Int.le_refl _, Int.le_refl _, Int.le_refl _, rfl, fun a ha => (by cases ha), Nat.le_refl _⟩
  have v1 : b_law_1 [dd (.scr ns), dd (hD pm.h), dd (.int lv), some (.ownd []), dd (.int 0), none, none, dd (.ref 0), dd (.ref 4), none, none, none, none, none, none, none, none, none] S1 = _ := v1
  have hd : heldD q = .dic [rwK ⟨nmI .a, cdI .a, q .a⟩, rwK ⟨nmI .b, cdI .b, q .b⟩, rwK ⟨nmI .c, cdI .c, q .c⟩, rwK ⟨nmI .d, cdI .d, q .d⟩] := rfl
  simp only [List.nil_append, List.cons_append] at v1 v2 v3 v4
  have fp := forL_cons (t := tgName 4) (x := .int 0) (xs := [.int 1, .int 2, .int 3]) (ρ := [dd (.scr ns), dd (hD pm.h), dd (.int lv), some (.ownd []), none, none, none, dd (.ref 0), dd (.ref 4), none, none, none, none, none, none, none, none, none]) rfl v1
  rw [forL_cons (t := tgName 4) (x := .int 1) rfl v2, forL_cons (t := tgName 4) (x := .int 2) rfl v3, forL_cons (t := tgName 4) (x := .int 3) rfl v4] at fp
  have fp := fp.trans (forL_nil _ _ _ _)
  clear v1 v2 v3 v4 A1 A2 A3 O2 O3 O4
  generalize hS5 : (((S1.set 3 _).set 3 _).set 3 _).set 3 _ = S5 at fp W0
  -- the turns
  have ls : gLen [.scr ns] S5 = some (.int (ns.length : Nat)) := rfl
  have mn : gMin [.int 16, .int (ns.length : Nat)] S5 = some (.int (lo2 16 (ns.length : Int))) := rfl
  have mx : gMax [.int 1, .int (lo2 16 (ns.length : Int))] S5 = some (.int (hi2 1 (lo2 16 (ns.length : Int)))) := rfl
  have hK : 1 ≤ hi2 1 (lo2 16 (ns.length : Int)) ∧ hi2 1 (lo2 16 (ns.length : Int)) ≤ 16 := by
    unfold hi2 lo2
    split <;> split <;> omega
  generalize hi2 1 (lo2 16 (ns.length : Int)) = K at *
  generalize lo2 16 (ns.length : Int) = K' at *
  have rk : kRng1 [.int K] = some ((iv 0 K.toNat).map .int) := by rw [rng1 (by omega) (by omega), rng_iv]
  have hmod : 0 < pm.h.modes.length := gok.nm.1
  obtain ⟨ρ7, S7, f7, g7, P7, s7, c7, fl, is, m, z4', z12, z13, z14, z15, z16, z17, e7, W7⟩ := forDn (e := D.int) (t := tgName 4) (g := b_law_2) (fun dn ρ S => ∃ (g : Gu) (P : Pc) (s : Sd) (c : Co) (f : Fl) (is : Bool) (m : Int) (y4 y12 y13 y14 y15 y16 y17 : Option Slot), ρ = [dd (.scr ns), dd (hD pm.h), dd (.int lv), dd (heldD q), y4, some (.own ((nmsF f).map .str)), none, dd (.ref 0), dd (.ref 4), z4, dd (.int m), dd (.bl is), y12, y13, y14, y15, y16, y17] ∧ W5 dn.length S g P s c (pc0 pm 6) pm f q is m) (iv 0 K.toNat) [] [dd (.scr ns), dd (hD pm.h), dd (.int lv), dd (heldD q), dd (.int 3), some (.own ((nmsF ⟨true, true, true, true⟩).map .str)), none, dd (.ref 0), dd (.ref 4), z4, dd (.int 0), dd (.bl false), none, none, none, none, none, none] S5 ⟨_, _, _, _, _, _, _, _, none, none, none, none, none, none, rfl, W0⟩ (by
    rintro dn k rr ρ S hd' ⟨g, P, s, c, f, is, m, y4, y12, y13, y14, y15, y16, y17, rfl, W⟩
    have hl := (mid_mem hd').2
    rw [iv_len] at hl
    obtain ⟨S', g', P', s', c', f', is', m', x12, x13, x14, x15, x16, x17, ev, W'⟩ := b2_ev ns hn W (by omega) (by rw [plv]; omega) (by rw [prg]; decide) hmod hqk k (dd (hD pm.h)) (dd (.int lv)) none z4 y12 y13 y14 y15 y16 y17
    exact ⟨_, _, S', rfl, ev, g', P', s', c', f', is', m', _, x12, x13, x14, x15, x16, x17, rfl, by rw [List.length_append]; exact W'⟩)
  subst e7
  rw [List.nil_append, iv_len] at W7
  -- the end
  obtain ⟨Sa, ea, Aa, Ga, la⟩ := shown_ev W7.gr.at'
  have Wa := W7.grow Ga
  obtain ⟨Sb, Pb, eb, Db⟩ := Aa.wait (m := m + 50) (by have := W7.sl; omega) (by have := W7.gr.run.bells; omega) (by have := W7.gr.run.rows; omega) (by have := W7.gr.run.gone; omega)
  have npan : g7.panel ≠ S7.length := fun e => by have := lt_of_at W7.gr.at'.pan.cp; omega
  have nog : (5 : Nat) ≠ S7.length := fun e => by have h5 : 5 < S7.length := lt_of_at W7.og.pan.cp; omega
  have Gb := Wa.gr.at'.keep Db.keep Aa.cp npan
  have Ob := Wa.og.keep Db.keep Aa.cp nog
  obtain ⟨Sc, ec, Ac, Gc, _⟩ := shown_ev Gb
  have Gcc := Gb.grow Gc
  have Oc := Ob.grow Gc
  have nvo := gnames_ev Oc
  have nvo : m_Guard_names [.ref 4] Sc = .ok (.lst []) Sc := nvo
  obtain ⟨Sd', ed, Ad, Gd, _⟩ := shown_ev Oc
  have Gdd := Gcc.grow Gd
  have Od := Oc.grow Gd
  have dbA := done_by_ev Gdd (n := "a") (ofS_ok _)
  have dbB := done_by_ev Gdd (n := "b") (ofS_ok _)
  have dbC := done_by_ev Gdd (n := "c") (ofS_ok _)
  have dbD := done_by_ev Gdd (n := "d") (ofS_ok _)
  obtain ⟨Se, ee, Ae, Ge, _⟩ := shown_ev Gdd
  have Oe := Od.grow Ge
  have dbO := done_by_ev Oe (n := "a") (ofS_ok _)
  have dbO : m_Guard_done_by [.ref 4, .str "a"] Se = .ok (.lst []) Se := dbO
  have ag7 := at_g W7.gr.at'.cg
  have apa := at_p Aa.cp
  have agb := at_g Gb.cg
  have apc := at_p Ac.cp
  have ck := clock_ev Ac
  have agc := at_g Oc.cg
  have apd := at_p Ad.cp
  have lgd : m_Panel_log [.ref Sc.length] Sd' = .ok (.lst []) Sd' := log_ev Ad
  have agd := at_g Gdd.cg
  have ape := at_p Ae.cp
  have lge := log_ev Ae
  have age := at_g Oe.cg
  have gg : gGt (.int s7.last) (.int m) Sc = some (.bl false) := by
    show some (D.bl (decide (m < s7.last))) = _
    rw [decide_eq_false (by have := W7.sl; omega)]
  have q0 : ∀ S, gEq true (.lst []) (.lst []) S = some (.bl false) := fun S => by kernel_rfl
  have q1 : ∀ S, gEq false (.lst []) (.lst []) S = some (.bl true) := fun S => by kernel_rfl
  have hch : ((Str.ofString "abcd").cps.toList.map fun c => D.str ⟨#[c]⟩) = [.str "a", .str "b", .str "c", .str "d"] := by kernel_rfl
  have hsum : (((doneL g7 "a").length : Nat) : Int) + ((((doneL g7 "b").length : Nat) : Int) + ((((doneL g7 "c").length : Nat) : Int) + ((((doneL g7 "d").length : Nat) : Int) + 0))) = ((s7.rows.length : Nat) : Int) := by
    have := acts_sum g7.acts W7.an
    have al := W7.al
    unfold doneL
    simp only [List.length_map]
    omega
  have gs : ∀ (x1 x2 x3 x4 : Int) S, gSum [.lst [.int x1, .int x2, .int x3, .int x4]] S = some (.int (x1 + (x2 + (x3 + (x4 + 0))))) := fun _ _ _ _ _ => rfl
  have qs : gEq false (.int ((s7.rows.length : Nat) : Int)) (.int ((s7.rows.length : Nat) : Int)) Se = some (.bl true) := by rw [eq_int]; simp
  have eh' : m_law_house [.scr ns, .int 0] [] = .ok (hD pm.h) [] := by rw [← hpm]; exact eh
  have r2 : kRng1 [.int 2] = some [.int 0, .int 1] := by kernel_rfl
  have r4 : kRng1 [.int 4] = some [.int 0, .int 1, .int 2, .int 3] := by kernel_rfl
  have hl4 : (nmsF ⟨true, true, true, true⟩).map D.str = [.str "a", .str "b", .str "c", .str "d"] := rfl
  rw [hl4] at f7
  rw [hd] at f7
  generalize [rwK ⟨nmI .a, cdI .a, q .a⟩, rwK ⟨nmI .b, cdI .b, q .b⟩, rwK ⟨nmI .c, cdI .c, q .c⟩, rwK ⟨nmI .d, cdI .d, q .d⟩] = KV at *
  generalize (nmsF fl).map D.str = NF at *
  generalize (iv 0 K.toNat).map D.int = KL at *
  clear W0 W7 Wa A4 O5 G0 G1 O1 R0 hd
  generalize hD pm.h = HH at *
  generalize (doneL g7 "a") = La at *
  generalize (doneL g7 "b") = Lb at *
  generalize (doneL g7 "c") = Lc at *
  generalize (doneL g7 "d") = Ld at *
  generalize S7.length = N7 at *
  generalize Sb.length = Nb at *
  generalize Sc.length = Nc at *
  generalize Sd'.length = Nd at *
  generalize s7.rows = R7 at *
  refine law_gets ?_
  unfold g_law
  (refine seqK fun k' hk' => ?_; simp -implicitDefEqProofs [eh']; subst hk')
  (refine seqK fun k' hk' => ?_; simp -implicitDefEqProofs [d0, hlv]; subst hk')
  (refine seqK fun k' hk' => ?_; simp -implicitDefEqProofs [r2, wipeE, compL, fYes, mk1, l0, mk2, lim_small, tgLst]; subst hk')
  (refine seqK fun k' hk' => ?_; simp -implicitDefEqProofs [sSetOwnD, fDict0]; subst hk')
  (refine seqK fun k' hk' => ?_; simp -implicitDefEqProofs [r4, fp]; subst hk')
  (refine frzK fun k' hk' => ?_; simp -implicitDefEqProofs [sFreeze]; subst hk')
  (refine seqK fun k' hk' => ?_; simp -implicitDefEqProofs [sSetOwn, fNew]; subst hk')
  (refine seqK fun k' hk' => ?_; simp -implicitDefEqProofs [lim_small]; subst hk')
  (refine seqK fun k' hk' => ?_; simp -implicitDefEqProofs [ls, mn, mx, rk, f7]; subst hk')
  (refine frzK fun k' hk' => ?_; simp -implicitDefEqProofs [sFreeze]; subst hk')
  (refine seqK fun k' hk' => ?_; simp -implicitDefEqProofs [ag7, gm_shown, ea, apa, nm_wait, eb]; subst hk')
  (refine seqK fun k' hk' => ?_; simp -implicitDefEqProofs [agb, gm_shown, ec, apc, nm_clock, ck, gg, agc, gm_names, nvo, q0, ed, apd, nm_log, lgd, lim_small]; subst hk')
  have y0 : (0 : Nat) < LIM := limlt_small (by decide)
  have y1 : (1 : Nat) < LIM := limlt_small (by decide)
  have y2 : (2 : Nat) < LIM := limlt_small (by decide)
  have y3 : (3 : Nat) < LIM := limlt_small (by decide)
  (refine seqK fun k' hk' => ?_; simp -implicitDefEqProofs [hch, wipeE, compL, fYes, agd, gm_done_by, dbA, dbB, dbC, dbD, gs, hsum, y0, y1, y2, y3]; subst hk')
  rw [Int.add_zero] at hsum
  simp -implicitDefEqProofs [hsum, agd, gm_shown, ee, ape, nm_log, lge, qs, age, gm_done_by, dbO, q1, lim_small]
end BW
namespace BW
open PySem PySem.Spec PyProof.Rows L2
theorem all_mk {l : PySem.W.OpenLaw} {w : World} {K : PySem.W.Frag} {h : Heap} {mg : Str → Option Value} {fa : Addr} (X : K.In h) (G : h.Ns mainGlobals mg) (hfa : mg "law" = some (.ref fa)) (c : SaysB h_fa h_fn K) :
    ∃ fd : FuncData, (∀ (s : Shared) (v : Value), BindsTo s fd ⟨[v], []⟩ [("script", v)]) ∧ ∀ base : Heap, K.In base → base.Ns mainGlobals mg → FnOk l.prog w K mg base (L2.CX l.prog w) 10 fa fd ["script"] (spM K (clOf K) 1 m_law) := by
  have c0 := c.fact
  unfold h_fa at c0
  obtain ⟨ex, c0⟩ := He.ba c0
  obtain ⟨kb_Codes, c0⟩ := He.ba c0
  obtain ⟨kb_Stand, c0⟩ := He.ba c0
  obtain ⟨kb_Panel, c0⟩ := He.ba c0
  obtain ⟨kb_Guard, c0⟩ := He.ba c0
  obtain ⟨v0, c0⟩ := He.ba c0
  obtain ⟨v1, c0⟩ := He.ba c0
  obtain ⟨v2, c0⟩ := He.ba c0
  obtain ⟨v3, c0⟩ := He.ba c0
  obtain ⟨v4, c0⟩ := He.ba c0
  obtain ⟨v5, c0⟩ := He.ba c0
  obtain ⟨v6, c0⟩ := He.ba c0
  obtain ⟨v7, c0⟩ := He.ba c0
  have B : Bt mg := btB_ok X G c0
  have E := excsB_ok X G ex
  have KF_Codes := clsB_ok X G kb_Codes
  have KF_Stand := clsB_ok X G kb_Stand
  have KF_Panel := clsB_ok X G kb_Panel
  have KF_Guard := clsB_ok X G kb_Guard
  have C : Ct K mg (clOf K) := ⟨(strB_ok X G v0), (strB_ok X G v1), (tupB_ok X G v2 (fun w => (.cons (.str _) (.cons (.str _) .nil)))), (tupB_ok X G v3 (fun w => (.cons (.str _) (.cons (.str _) (.cons (.str _) (.cons (.str _) .nil)))))), (intB_ok X G v4), (intB_ok X G v5), (intB_ok X G v6), (intB_ok X G v7), E.x "BoltError" (.head _), E.x "NoHouse" (.tail _ (.head _)), E.x "NoMode" (.tail _ (.tail _ (.head _))), E.x "NoEye" (.tail _ (.tail _ (.tail _ (.head _)))), E.x "NoTime" (.tail _ (.tail _ (.tail _ (.tail _ (.head _))))), E.x "NotOff" (.tail _ (.tail _ (.tail _ (.tail _ (.tail _ (.head _)))))), E.x "Ajar" (.tail _ (.tail _ (.tail _ (.tail _ (.tail _ (.tail _ (.head _))))))), E.x "NotSet" (.tail _ (.tail _ (.tail _ (.tail _ (.tail _ (.tail _ (.tail _ (.head _)))))))), E.x "NoName" (.tail _ (.tail _ (.tail _ (.tail _ (.tail _ (.tail _ (.tail _ (.tail _ (.head _))))))))), E.x "NoCode" (.tail _ (.tail _ (.tail _ (.tail _ (.tail _ (.tail _ (.tail _ (.tail _ (.tail _ (.head _)))))))))), E.x "NoRight" (.tail _ (.tail _ (.tail _ (.tail _ (.tail _ (.tail _ (.tail _ (.tail _ (.tail _ (.tail _ (.head _))))))))))), E.x "Taken" (.tail _ (.tail _ (.tail _ (.tail _ (.tail _ (.tail _ (.tail _ (.tail _ (.tail _ (.tail _ (.tail _ (.head _)))))))))))), E.x "Wrong" (.tail _ (.tail _ (.tail _ (.tail _ (.tail _ (.tail _ (.tail _ (.tail _ (.tail _ (.tail _ (.tail _ (.tail _ (.head _))))))))))))), E.x "Locked" (.tail _ (.tail _ (.tail _ (.tail _ (.tail _ (.tail _ (.tail _ (.tail _ (.tail _ (.tail _ (.tail _ (.tail _ (.tail _ (.head _)))))))))))))), E.ec, E.isa, E.isv, E.exm, E.noVE, KF_Codes.ok, KF_Stand.ok, KF_Panel.ok, KF_Guard.ok, trivial⟩
  obtain ⟨fd0, F0⟩ := c.fun_ 0 (at_ := ("_law_cell", none)) (x := "_law_cell") (q := "_law_cell") (st := st_law_cell) rfl
  have b0 := F0.binds (ps := ["script", "k"]) fun _ _ _ _ _ _ us hl => match us, hl with | [_, _], _ => rfl
  obtain ⟨fd1, F1⟩ := c.fun_ 1 (at_ := ("_law_drawn", none)) (x := "_law_drawn") (q := "_law_drawn") (st := st_law_drawn) rfl
  have b1 := F1.binds (ps := ["script", "k", "many"]) fun _ _ _ _ _ _ us hl => match us, hl with | [_, _, _], _ => rfl
  obtain ⟨fd2, F2⟩ := c.fun_ 2 (at_ := ("_law_doors", none)) (x := "_law_doors") (q := "_law_doors") (st := st_law_doors) rfl
  have b2 := F2.binds (ps := ["script", "at", "many"]) fun _ _ _ _ _ _ us hl => match us, hl with | [_, _, _], _ => rfl
  obtain ⟨fd3, F3⟩ := c.fun_ 3 (at_ := ("_law_house", none)) (x := "_law_house") (q := "_law_house") (st := st_law_house) rfl
  have b3 := F3.binds (ps := ["script", "at"]) fun _ _ _ _ _ _ us hl => match us, hl with | [_, _], _ => rfl
  obtain ⟨fd4, F4⟩ := c.fun_ 4 (at_ := ("is_number", none)) (x := "is_number") (q := "is_number") (st := st_is_number) rfl
  have b4 := F4.binds (ps := ["thing", "low", "high"]) fun _ _ _ _ _ _ us hl => match us, hl with | [_, _, _], _ => rfl
  obtain ⟨fd5, F5⟩ := c.fun_ 5 (at_ := ("is_eye", none)) (x := "is_eye") (q := "is_eye") (st := st_is_eye) rfl
  have b5 := F5.binds (ps := ["thing", "many", "doors"]) fun _ _ _ _ _ _ us hl => match us, hl with | [_, _, _], _ => rfl
  obtain ⟨fd6, F6⟩ := c.fun_ 6 (at_ := ("are_eyes", none)) (x := "are_eyes") (q := "are_eyes") (st := st_are_eyes) rfl
  have b6 := F6.binds (ps := ["thing", "many", "doors"]) fun _ _ _ _ _ _ us hl => match us, hl with | [_, _, _], _ => rfl
  obtain ⟨fd7, F7⟩ := c.fun_ 7 (at_ := ("do_rise", none)) (x := "do_rise") (q := "do_rise") (st := st_do_rise) rfl
  have b7 := F7.binds (ps := ["row"]) fun _ _ _ _ _ _ us hl => match us, hl with | [_], _ => rfl
  obtain ⟨fd8, F8⟩ := c.fun_ 8 (at_ := ("are_doors", none)) (x := "are_doors") (q := "are_doors") (st := st_are_doors) rfl
  have b8 := F8.binds (ps := ["thing", "many"]) fun _ _ _ _ _ _ us hl => match us, hl with | [_, _], _ => rfl
  obtain ⟨fd9, F9⟩ := c.fun_ 9 (at_ := ("is_mode", none)) (x := "is_mode") (q := "is_mode") (st := st_is_mode) rfl
  have b9 := F9.binds (ps := ["thing", "many"]) fun _ _ _ _ _ _ us hl => match us, hl with | [_, _], _ => rfl
  obtain ⟨fd10, F10⟩ := c.fun_ 10 (at_ := ("is_house", none)) (x := "is_house") (q := "is_house") (st := st_is_house) rfl
  have b10 := F10.binds (ps := ["thing"]) fun _ _ _ _ _ _ us hl => match us, hl with | [_], _ => rfl
  obtain ⟨fd11, F11⟩ := c.fun_ 11 (at_ := ("need_house", none)) (x := "need_house") (q := "need_house") (st := st_need_house) rfl
  have b11 := F11.binds (ps := ["house"]) fun _ _ _ _ _ _ us hl => match us, hl with | [_], _ => rfl
  obtain ⟨fd12, F12⟩ := c.fun_ 12 (at_ := ("Stand", some "__init__")) (x := "__init__") (q := "Stand.__init__") (st := st_Stand_init) rfl
  have b12 := F12.binds (ps := ["self"]) fun _ _ _ _ _ _ us hl => match us, hl with | [_], _ => rfl
  obtain ⟨fd13, F13⟩ := c.fun_ 13 (at_ := ("Panel", some "__init__")) (x := "__init__") (q := "Panel.__init__") (st := st_Panel_init) rfl
  have b13 := F13.binds (ps := ["self", "house", "leaving", "entering", "ringing"]) fun _ _ _ _ _ _ us hl => match us, hl with | [_, _, _, _, _], _ => rfl
  obtain ⟨fd14, F14⟩ := c.fun_ 14 (at_ := ("Codes", some "__init__")) (x := "__init__") (q := "Codes.__init__") (st := st_Codes_init) rfl
  have b14 := F14.binds (ps := ["self", "tries", "rest"]) fun _ _ _ _ _ _ us hl => match us, hl with | [_, _, _], _ => rfl
  obtain ⟨fd15, F15⟩ := c.fun_ 15 (at_ := ("Guard", some "__init__")) (x := "__init__") (q := "Guard.__init__") (st := st_Guard_init) rfl
  have b15 := F15.binds (ps := ["self", "house", "leaving", "entering", "ringing", "tries", "rest"]) fun _ _ _ _ _ _ us hl => match us, hl with | [_, _, _, _, _, _, _], _ => rfl
  obtain ⟨fd16, F16⟩ := c.fun_ 16 (at_ := ("is_name", none)) (x := "is_name") (q := "is_name") (st := st_is_name) rfl
  have b16 := F16.binds (ps := ["thing"]) fun _ _ _ _ _ _ us hl => match us, hl with | [_], _ => rfl
  obtain ⟨fd17, F17⟩ := c.fun_ 17 (at_ := ("is_code", none)) (x := "is_code") (q := "is_code") (st := st_is_code) rfl
  have b17 := F17.binds (ps := ["thing"]) fun _ _ _ _ _ _ us hl => match us, hl with | [_], _ => rfl
  obtain ⟨fd18, F18⟩ := c.fun_ 18 (at_ := ("are_rights", none)) (x := "are_rights") (q := "are_rights") (st := st_are_rights) rfl
  have b18 := F18.binds (ps := ["thing"]) fun _ _ _ _ _ _ us hl => match us, hl with | [_], _ => rfl
  obtain ⟨fd19, F19⟩ := c.fun_ 19 (at_ := ("Codes", some "who")) (x := "who") (q := "Codes.who") (st := st_Codes_who) rfl
  have b19 := F19.binds (ps := ["self", "code"]) fun _ _ _ _ _ _ us hl => match us, hl with | [_, _], _ => rfl
  obtain ⟨fd20, F20⟩ := c.fun_ 20 (at_ := ("Codes", some "give")) (x := "give") (q := "Codes.give") (st := st_Codes_give) rfl
  have b20 := F20.binds (ps := ["self", "name", "code", "rights"]) fun _ _ _ _ _ _ us hl => match us, hl with | [_, _, _, _], _ => rfl
  obtain ⟨fd21, F21⟩ := c.fun_ 21 (at_ := ("Guard", some "give")) (x := "give") (q := "Guard.give") (st := st_Guard_give) rfl
  have b21 := F21.binds (ps := ["self", "name", "code", "rights"]) fun _ _ _ _ _ _ us hl => match us, hl with | [_, _, _, _], _ => rfl
  obtain ⟨fd22, F22⟩ := c.fun_ 22 (at_ := ("Panel", some "log")) (x := "log") (q := "Panel.log") (st := st_Panel_log) rfl
  have b22 := F22.binds (ps := ["self"]) fun _ _ _ _ _ _ us hl => match us, hl with | [_], _ => rfl
  obtain ⟨fd23, F23⟩ := c.fun_ 23 (at_ := ("Panel", some "twin")) (x := "twin") (q := "Panel.twin") (st := st_Panel_twin) rfl
  have b23 := F23.binds (ps := ["self"]) fun _ _ _ _ _ _ us hl => match us, hl with | [_], _ => rfl
  obtain ⟨fd24, F24⟩ := c.fun_ 24 (at_ := ("Guard", some "shown")) (x := "shown") (q := "Guard.shown") (st := st_Guard_shown) rfl
  have b24 := F24.binds (ps := ["self"]) fun _ _ _ _ _ _ us hl => match us, hl with | [_], _ => rfl
  obtain ⟨fd25, F25⟩ := c.fun_ 25 (at_ := ("Panel", some "clock")) (x := "clock") (q := "Panel.clock") (st := st_Panel_clock) rfl
  have b25 := F25.binds (ps := ["self"]) fun _ _ _ _ _ _ us hl => match us, hl with | [_], _ => rfl
  obtain ⟨fd26, F26⟩ := c.fun_ 26 (at_ := ("Guard", some "need_time")) (x := "need_time") (q := "Guard.need_time") (st := st_Guard_need_time) rfl
  have b26 := F26.binds (ps := ["self", "moment"]) fun _ _ _ _ _ _ us hl => match us, hl with | [_, _], _ => rfl
  obtain ⟨fd27, F27⟩ := c.fun_ 27 (at_ := ("Codes", some "locked_at")) (x := "locked_at") (q := "Codes.locked_at") (st := st_Codes_locked_at) rfl
  have b27 := F27.binds (ps := ["self", "moment"]) fun _ _ _ _ _ _ us hl => match us, hl with | [_, _], _ => rfl
  obtain ⟨fd28, F28⟩ := c.fun_ 28 (at_ := ("Codes", some "ask")) (x := "ask") (q := "Codes.ask") (st := st_Codes_ask) rfl
  have b28 := F28.binds (ps := ["self", "code", "moment", "right"]) fun _ _ _ _ _ _ us hl => match us, hl with | [_, _, _, _], _ => rfl
  obtain ⟨fd29, F29⟩ := c.fun_ 29 (at_ := ("Stand", some "copy")) (x := "copy") (q := "Stand.copy") (st := st_Stand_copy) rfl
  have b29 := F29.binds (ps := ["self"]) fun _ _ _ _ _ _ us hl => match us, hl with | [_], _ => rfl
  obtain ⟨fd30, F30⟩ := c.fun_ 30 (at_ := ("Panel", some "ring")) (x := "ring") (q := "Panel.ring") (st := st_Panel_ring) rfl
  have b30 := F30.binds (ps := ["self", "now", "eye", "moment"]) fun _ _ _ _ _ _ us hl => match us, hl with | [_, _, _, _], _ => rfl
  obtain ⟨fd31, F31⟩ := c.fun_ 31 (at_ := ("Panel", some "hush")) (x := "hush") (q := "Panel.hush") (st := st_Panel_hush) rfl
  have b31 := F31.binds (ps := ["self", "now", "moment"]) fun _ _ _ _ _ _ us hl => match us, hl with | [_, _, _], _ => rfl
  obtain ⟨fd32, F32⟩ := c.fun_ 32 (at_ := ("evers", none)) (x := "evers") (q := "evers") (st := st_evers) rfl
  have b32 := F32.binds (ps := ["house"]) fun _ _ _ _ _ _ us hl => match us, hl with | [_], _ => rfl
  obtain ⟨fd33, F33⟩ := c.fun_ 33 (at_ := ("Panel", some "eyes_by")) (x := "eyes_by") (q := "Panel.eyes_by") (st := st_Panel_eyes_by) rfl
  have b33 := F33.binds (ps := ["self", "now"]) fun _ _ _ _ _ _ us hl => match us, hl with | [_, _], _ => rfl
  obtain ⟨fd34, F34⟩ := c.fun_ 34 (at_ := ("Panel", some "trip")) (x := "trip") (q := "Panel.trip") (st := st_Panel_trip) rfl
  have b34 := F34.binds (ps := ["self", "now", "eye", "moment"]) fun _ _ _ _ _ _ us hl => match us, hl with | [_, _, _, _], _ => rfl
  obtain ⟨fd35, F35⟩ := c.fun_ 35 (at_ := ("Panel", some "turn_by_time")) (x := "turn_by_time") (q := "Panel.turn_by_time") (st := st_Panel_turn_by_time) rfl
  have b35 := F35.binds (ps := ["self", "now"]) fun _ _ _ _ _ _ us hl => match us, hl with | [_, _], _ => rfl
  obtain ⟨fd36, F36⟩ := c.fun_ 36 (at_ := ("Panel", some "behind")) (x := "behind") (q := "Panel.behind") (st := st_Panel_behind) rfl
  have b36 := F36.binds (ps := ["self", "moment"]) fun _ _ _ _ _ _ us hl => match us, hl with | [_, _], _ => rfl
  obtain ⟨fd37, F37⟩ := c.fun_ 37 (at_ := ("need_mode", none)) (x := "need_mode") (q := "need_mode") (st := st_need_mode) rfl
  have b37 := F37.binds (ps := ["house", "mode"]) fun _ _ _ _ _ _ us hl => match us, hl with | [_, _], _ => rfl
  obtain ⟨fd38, F38⟩ := c.fun_ 38 (at_ := ("Panel", some "turn_to")) (x := "turn_to") (q := "Panel.turn_to") (st := st_Panel_turn_to) rfl
  have b38 := F38.binds (ps := ["self", "now", "word", "what"]) fun _ _ _ _ _ _ us hl => match us, hl with | [_, _, _, _], _ => rfl
  obtain ⟨fd39, F39⟩ := c.fun_ 39 (at_ := ("Panel", some "arm")) (x := "arm") (q := "Panel.arm") (st := st_Panel_arm) rfl
  have b39 := F39.binds (ps := ["self", "moment", "mode", "without"]) fun _ _ _ _ _ _ us hl => match us, hl with | [_, _, _, _], _ => rfl
  obtain ⟨fd40, F40⟩ := c.fun_ 40 (at_ := ("Guard", some "set_by")) (x := "set_by") (q := "Guard.set_by") (st := st_Guard_set_by) rfl
  have b40 := F40.binds (ps := ["self", "code", "moment", "mode", "without"]) fun _ _ _ _ _ _ us hl => match us, hl with | [_, _, _, _, _], _ => rfl
  obtain ⟨fd41, F41⟩ := c.fun_ 41 (at_ := ("Panel", some "lift")) (x := "lift") (q := "Panel.lift") (st := st_Panel_lift) rfl
  have b41 := F41.binds (ps := ["self", "moment"]) fun _ _ _ _ _ _ us hl => match us, hl with | [_, _], _ => rfl
  obtain ⟨fd42, F42⟩ := c.fun_ 42 (at_ := ("Guard", some "lift_by")) (x := "lift_by") (q := "Guard.lift_by") (st := st_Guard_lift_by) rfl
  have b42 := F42.binds (ps := ["self", "code", "moment"]) fun _ _ _ _ _ _ us hl => match us, hl with | [_, _, _], _ => rfl
  obtain ⟨fd43, F43⟩ := c.fun_ 43 (at_ := ("_law_told", none)) (x := "_law_told") (q := "_law_told") (st := st_law_told) rfl
  have b43 := F43.binds (ps := ["guard", "word", "code", "moment"]) fun _ _ _ _ _ _ us hl => match us, hl with | [_, _, _, _], _ => rfl
  obtain ⟨fd44, F44⟩ := c.fun_ 44 (at_ := ("Codes", some "names")) (x := "names") (q := "Codes.names") (st := st_Codes_names) rfl
  have b44 := F44.binds (ps := ["self"]) fun _ _ _ _ _ _ us hl => match us, hl with | [_], _ => rfl
  obtain ⟨fd45, F45⟩ := c.fun_ 45 (at_ := ("Guard", some "names")) (x := "names") (q := "Guard.names") (st := st_Guard_names) rfl
  have b45 := F45.binds (ps := ["self"]) fun _ _ _ _ _ _ us hl => match us, hl with | [_], _ => rfl
  obtain ⟨fd46, F46⟩ := c.fun_ 46 (at_ := ("Codes", some "take")) (x := "take") (q := "Codes.take") (st := st_Codes_take) rfl
  have b46 := F46.binds (ps := ["self", "name"]) fun _ _ _ _ _ _ us hl => match us, hl with | [_, _], _ => rfl
  obtain ⟨fd47, F47⟩ := c.fun_ 47 (at_ := ("Guard", some "take")) (x := "take") (q := "Guard.take") (st := st_Guard_take) rfl
  have b47 := F47.binds (ps := ["self", "name"]) fun _ _ _ _ _ _ us hl => match us, hl with | [_, _], _ => rfl
  obtain ⟨fd48, F48⟩ := c.fun_ 48 (at_ := ("Panel", some "wait")) (x := "wait") (q := "Panel.wait") (st := st_Panel_wait) rfl
  have b48 := F48.binds (ps := ["self", "moment"]) fun _ _ _ _ _ _ us hl => match us, hl with | [_, _], _ => rfl
  obtain ⟨fd49, F49⟩ := c.fun_ 49 (at_ := ("Guard", some "done_by")) (x := "done_by") (q := "Guard.done_by") (st := st_Guard_done_by) rfl
  have b49 := F49.binds (ps := ["self", "name"]) fun _ _ _ _ _ _ us hl => match us, hl with | [_, _], _ => rfl
  obtain ⟨fd50, F50⟩ := c.fun_ 50 (at_ := ("law", none)) (x := "law") (q := "law") (st := st_law) rfl
  have b50 := F50.binds (ps := ["script"]) fun _ _ _ _ _ _ us hl => match us, hl with | [_], _ => rfl
  have e := hfa.symm.trans (c.glo X G (x := "law") 50 (y := "law") (q := "law") (st := st_law) rfl)
  cases e
  refine ⟨fd50, fun s v => fun_bindsA (ps := ["script"]) F50 (fun _ _ _ _ _ _ us hl => match us, hl with | [_], _ => rfl) s [v] rfl, fun base _ _ => ?_⟩
  have d_law_cell := ok_law_cell (P := l.prog) (w := w) (base := base) (cl := clOf K) F0 b0 (c.glo X G (x := "_law_cell") 0 (y := "_law_cell") (q := "_law_cell") (st := st_law_cell) rfl) B C
  have d_law_drawn := ok_law_drawn (P := l.prog) (w := w) (base := base) (cl := clOf K) F1 b1 (c.glo X G (x := "_law_drawn") 1 (y := "_law_drawn") (q := "_law_drawn") (st := st_law_drawn) rfl) B C d_law_cell
  have d_law_doors := ok_law_doors (P := l.prog) (w := w) (base := base) (cl := clOf K) F2 b2 (c.glo X G (x := "_law_doors") 2 (y := "_law_doors") (q := "_law_doors") (st := st_law_doors) rfl) B C d_law_drawn
  have d_law_house := ok_law_house (P := l.prog) (w := w) (base := base) (cl := clOf K) F3 b3 (c.glo X G (x := "_law_house") 3 (y := "_law_house") (q := "_law_house") (st := st_law_house) rfl) B C d_law_drawn d_law_doors
  have d_is_number := ok_is_number (P := l.prog) (w := w) (base := base) (cl := clOf K) F4 b4 (c.glo X G (x := "is_number") 4 (y := "is_number") (q := "is_number") (st := st_is_number) rfl) B C
  have d_is_eye := ok_is_eye (P := l.prog) (w := w) (base := base) (cl := clOf K) F5 b5 (c.glo X G (x := "is_eye") 5 (y := "is_eye") (q := "is_eye") (st := st_is_eye) rfl) B C d_is_number
  have d_are_eyes := ok_are_eyes (P := l.prog) (w := w) (base := base) (cl := clOf K) F6 b6 (c.glo X G (x := "are_eyes") 6 (y := "are_eyes") (q := "are_eyes") (st := st_are_eyes) rfl) B C d_is_eye
  have d_do_rise := ok_do_rise (P := l.prog) (w := w) (base := base) (cl := clOf K) F7 b7 (c.glo X G (x := "do_rise") 7 (y := "do_rise") (q := "do_rise") (st := st_do_rise) rfl) B C
  have d_are_doors := ok_are_doors (P := l.prog) (w := w) (base := base) (cl := clOf K) F8 b8 (c.glo X G (x := "are_doors") 8 (y := "are_doors") (q := "are_doors") (st := st_are_doors) rfl) B C d_is_number d_do_rise
  have d_is_mode := ok_is_mode (P := l.prog) (w := w) (base := base) (cl := clOf K) F9 b9 (c.glo X G (x := "is_mode") 9 (y := "is_mode") (q := "is_mode") (st := st_is_mode) rfl) B C d_do_rise d_is_number
  have d_is_house := ok_is_house (P := l.prog) (w := w) (base := base) (cl := clOf K) F10 b10 (c.glo X G (x := "is_house") 10 (y := "is_house") (q := "is_house") (st := st_is_house) rfl) B C d_is_number d_are_eyes d_are_doors d_is_mode
  have d_need_house := ok_need_house (P := l.prog) (w := w) (base := base) (cl := clOf K) F11 b11 (c.glo X G (x := "need_house") 11 (y := "need_house") (q := "need_house") (st := st_need_house) rfl) B C d_is_house
  have d_Stand_init := ok_Stand_init (P := l.prog) (w := w) (base := base) (cl := clOf K) F12 b12 (c.init 12 (k := "Stand") (y := "__init__") (q := "Stand.__init__") (st := st_Stand_init) rfl KF_Stand) KF_Stand.g B C
  have d_Panel_init := ok_Panel_init (P := l.prog) (w := w) (base := base) (cl := clOf K) F13 b13 (c.init 13 (k := "Panel") (y := "__init__") (q := "Panel.__init__") (st := st_Panel_init) rfl KF_Panel) KF_Panel.g B C d_need_house d_Stand_init
  have d_Codes_init := ok_Codes_init (P := l.prog) (w := w) (base := base) (cl := clOf K) F14 b14 (c.init 14 (k := "Codes") (y := "__init__") (q := "Codes.__init__") (st := st_Codes_init) rfl KF_Codes) KF_Codes.g B C
  have d_Guard_init := ok_Guard_init (P := l.prog) (w := w) (base := base) (cl := clOf K) F15 b15 (c.init 15 (k := "Guard") (y := "__init__") (q := "Guard.__init__") (st := st_Guard_init) rfl KF_Guard) KF_Guard.g B C d_Panel_init d_Codes_init
  have d_is_name := ok_is_name (P := l.prog) (w := w) (base := base) (cl := clOf K) F16 b16 (c.glo X G (x := "is_name") 16 (y := "is_name") (q := "is_name") (st := st_is_name) rfl) B C
  have d_is_code := ok_is_code (P := l.prog) (w := w) (base := base) (cl := clOf K) F17 b17 (c.glo X G (x := "is_code") 17 (y := "is_code") (q := "is_code") (st := st_is_code) rfl) B C
  have d_are_rights := ok_are_rights (P := l.prog) (w := w) (base := base) (cl := clOf K) F18 b18 (c.glo X G (x := "are_rights") 18 (y := "are_rights") (q := "are_rights") (st := st_are_rights) rfl) B C
  have d_Codes_who := ok_Codes_who (P := l.prog) (w := w) (base := base) (cl := clOf K) F19 b19 (c.meth (k := "Codes") (m := "who") 19 (y := "who") (q := "Codes.who") (st := st_Codes_who) rfl) B C
  have d_Codes_give := ok_Codes_give (P := l.prog) (w := w) (base := base) (cl := clOf K) F20 b20 (c.meth (k := "Codes") (m := "give") 20 (y := "give") (q := "Codes.give") (st := st_Codes_give) rfl) B C d_is_name d_is_code d_are_rights d_Codes_who
  have d_Guard_give := ok_Guard_give (P := l.prog) (w := w) (base := base) (cl := clOf K) F21 b21 (c.meth (k := "Guard") (m := "give") 21 (y := "give") (q := "Guard.give") (st := st_Guard_give) rfl) B C d_Codes_give
  have d_Panel_log := ok_Panel_log (P := l.prog) (w := w) (base := base) (cl := clOf K) F22 b22 (c.meth (k := "Panel") (m := "log") 22 (y := "log") (q := "Panel.log") (st := st_Panel_log) rfl) B C
  have d_Panel_twin := ok_Panel_twin (P := l.prog) (w := w) (base := base) (cl := clOf K) F23 b23 (c.meth (k := "Panel") (m := "twin") 23 (y := "twin") (q := "Panel.twin") (st := st_Panel_twin) rfl) B C d_Panel_init
  have d_Guard_shown := ok_Guard_shown (P := l.prog) (w := w) (base := base) (cl := clOf K) F24 b24 (c.meth (k := "Guard") (m := "shown") 24 (y := "shown") (q := "Guard.shown") (st := st_Guard_shown) rfl) B C d_Panel_twin
  have d_Panel_clock := ok_Panel_clock (P := l.prog) (w := w) (base := base) (cl := clOf K) F25 b25 (c.meth (k := "Panel") (m := "clock") 25 (y := "clock") (q := "Panel.clock") (st := st_Panel_clock) rfl) B C
  have d_Guard_need_time := ok_Guard_need_time (P := l.prog) (w := w) (base := base) (cl := clOf K) F26 b26 (c.meth (k := "Guard") (m := "need_time") 26 (y := "need_time") (q := "Guard.need_time") (st := st_Guard_need_time) rfl) B C d_Panel_clock
  have d_Codes_locked_at := ok_Codes_locked_at (P := l.prog) (w := w) (base := base) (cl := clOf K) F27 b27 (c.meth (k := "Codes") (m := "locked_at") 27 (y := "locked_at") (q := "Codes.locked_at") (st := st_Codes_locked_at) rfl) B C
  have d_Codes_ask := ok_Codes_ask (P := l.prog) (w := w) (base := base) (cl := clOf K) F28 b28 (c.meth (k := "Codes") (m := "ask") 28 (y := "ask") (q := "Codes.ask") (st := st_Codes_ask) rfl) B C d_Codes_locked_at d_Codes_who
  have d_Stand_copy := ok_Stand_copy (P := l.prog) (w := w) (base := base) (cl := clOf K) F29 b29 (c.meth (k := "Stand") (m := "copy") 29 (y := "copy") (q := "Stand.copy") (st := st_Stand_copy) rfl) B C d_Stand_init
  have d_Panel_ring := ok_Panel_ring (P := l.prog) (w := w) (base := base) (cl := clOf K) F30 b30 (c.meth (k := "Panel") (m := "ring") 30 (y := "ring") (q := "Panel.ring") (st := st_Panel_ring) rfl) B C
  have d_Panel_hush := ok_Panel_hush (P := l.prog) (w := w) (base := base) (cl := clOf K) F31 b31 (c.meth (k := "Panel") (m := "hush") 31 (y := "hush") (q := "Panel.hush") (st := st_Panel_hush) rfl) B C
  have d_evers := ok_evers (P := l.prog) (w := w) (base := base) (cl := clOf K) F32 b32 (c.glo X G (x := "evers") 32 (y := "evers") (q := "evers") (st := st_evers) rfl) B C
  have d_Panel_eyes_by := ok_Panel_eyes_by (P := l.prog) (w := w) (base := base) (cl := clOf K) F33 b33 (c.meth (k := "Panel") (m := "eyes_by") 33 (y := "eyes_by") (q := "Panel.eyes_by") (st := st_Panel_eyes_by) rfl) B C d_evers
  have d_Panel_trip := ok_Panel_trip (P := l.prog) (w := w) (base := base) (cl := clOf K) F34 b34 (c.meth (k := "Panel") (m := "trip") 34 (y := "trip") (q := "Panel.trip") (st := st_Panel_trip) rfl) B C d_Panel_ring d_Panel_eyes_by
  have d_Panel_turn_by_time := ok_Panel_turn_by_time (P := l.prog) (w := w) (base := base) (cl := clOf K) F35 b35 (c.meth (k := "Panel") (m := "turn_by_time") 35 (y := "turn_by_time") (q := "Panel.turn_by_time") (st := st_Panel_turn_by_time) rfl) B C d_Panel_ring d_Panel_hush d_Panel_eyes_by d_Panel_trip
  have d_Panel_behind := ok_Panel_behind (P := l.prog) (w := w) (base := base) (cl := clOf K) F36 b36 (c.meth (k := "Panel") (m := "behind") 36 (y := "behind") (q := "Panel.behind") (st := st_Panel_behind) rfl) B C d_Stand_copy d_Panel_turn_by_time
  have d_need_mode := ok_need_mode (P := l.prog) (w := w) (base := base) (cl := clOf K) F37 b37 (c.glo X G (x := "need_mode") 37 (y := "need_mode") (q := "need_mode") (st := st_need_mode) rfl) B C d_is_number
  have d_Panel_turn_to := ok_Panel_turn_to (P := l.prog) (w := w) (base := base) (cl := clOf K) F38 b38 (c.meth (k := "Panel") (m := "turn_to") 38 (y := "turn_to") (q := "Panel.turn_to") (st := st_Panel_turn_to) rfl) B C
  have d_Panel_arm := ok_Panel_arm (P := l.prog) (w := w) (base := base) (cl := clOf K) F39 b39 (c.meth (k := "Panel") (m := "arm") 39 (y := "arm") (q := "Panel.arm") (st := st_Panel_arm) rfl) B C d_Panel_behind d_need_mode d_is_mode d_Panel_turn_by_time d_Panel_turn_to
  have d_Guard_set_by := ok_Guard_set_by (P := l.prog) (w := w) (base := base) (cl := clOf K) F40 b40 (c.meth (k := "Guard") (m := "set_by") 40 (y := "set_by") (q := "Guard.set_by") (st := st_Guard_set_by) rfl) B C d_Guard_need_time d_Codes_ask d_Panel_arm
  have d_Panel_lift := ok_Panel_lift (P := l.prog) (w := w) (base := base) (cl := clOf K) F41 b41 (c.meth (k := "Panel") (m := "lift") 41 (y := "lift") (q := "Panel.lift") (st := st_Panel_lift) rfl) B C d_Panel_behind d_Panel_hush d_Panel_turn_to
  have d_Guard_lift_by := ok_Guard_lift_by (P := l.prog) (w := w) (base := base) (cl := clOf K) F42 b42 (c.meth (k := "Guard") (m := "lift_by") 42 (y := "lift_by") (q := "Guard.lift_by") (st := st_Guard_lift_by) rfl) B C d_Guard_need_time d_Codes_ask d_Panel_lift
  have d_law_told := ok_law_told (P := l.prog) (w := w) (base := base) (cl := clOf K) F43 b43 (c.glo X G (x := "_law_told") 43 (y := "_law_told") (q := "_law_told") (st := st_law_told) rfl) B C d_Guard_set_by d_Guard_lift_by
  have d_Codes_names := ok_Codes_names (P := l.prog) (w := w) (base := base) (cl := clOf K) F44 b44 (c.meth (k := "Codes") (m := "names") 44 (y := "names") (q := "Codes.names") (st := st_Codes_names) rfl) B C
  have d_Guard_names := ok_Guard_names (P := l.prog) (w := w) (base := base) (cl := clOf K) F45 b45 (c.meth (k := "Guard") (m := "names") 45 (y := "names") (q := "Guard.names") (st := st_Guard_names) rfl) B C d_Codes_names
  have d_Codes_take := ok_Codes_take (P := l.prog) (w := w) (base := base) (cl := clOf K) F46 b46 (c.meth (k := "Codes") (m := "take") 46 (y := "take") (q := "Codes.take") (st := st_Codes_take) rfl) B C
  have d_Guard_take := ok_Guard_take (P := l.prog) (w := w) (base := base) (cl := clOf K) F47 b47 (c.meth (k := "Guard") (m := "take") 47 (y := "take") (q := "Guard.take") (st := st_Guard_take) rfl) B C d_Codes_take
  have d_Panel_wait := ok_Panel_wait (P := l.prog) (w := w) (base := base) (cl := clOf K) F48 b48 (c.meth (k := "Panel") (m := "wait") 48 (y := "wait") (q := "Panel.wait") (st := st_Panel_wait) rfl) B C d_Panel_turn_to d_Panel_behind
  have d_Guard_done_by := ok_Guard_done_by (P := l.prog) (w := w) (base := base) (cl := clOf K) F49 b49 (c.meth (k := "Guard") (m := "done_by") 49 (y := "done_by") (q := "Guard.done_by") (st := st_Guard_done_by) rfl) B C
  exact fn_law F50 B C d_law_house d_law_drawn d_Guard_init d_Guard_give d_Panel_log d_Guard_shown d_law_told d_Guard_names d_Guard_take d_Panel_wait d_Panel_clock d_Guard_done_by
end BW
open PySem PySem.W PyProof.Rows
set_option maxRecDepth 100000 in
set_option maxHeartbeats 0 in
theorem PySem.Challenge.cw_boltwatch_k51_whole_guards_holds : PySem.Challenge.rw_boltwatch_k51_whole_guards.Holds := by
  w_on; o_law
  refine HandSHeadRun.head_any (r := OpenLaw.row PySem.Challenge.rw_boltwatch_k51_whole_guards) (q := view (PySem.W.OpenLaw.row PySem.Challenge.rw_boltwatch_k51_whole_guards).prog [52]) (H := BW.h_hk) (ob := BW.h_ob) (M := 20000) (loose := BW.h_loose) (d := HandSHeadRun.topDef (PySem.W.OpenLaw.row PySem.Challenge.rw_boltwatch_k51_whole_guards).prog 52) (kwd := []) BW.h_ob_eq (by kernel_rfl) (fun s => by kernel_rfl) BW.h_run (by kernel_rfl) (by kernel_rfl) (by kernel_rfl) (by rfl) (by first | assumption | decide +kernel) (by decide +kernel) ⟨rfl, rfl, rfl, rfl, rfl, by decide +kernel⟩ ?hw ?hc
  case hw => w_witness2
  case hc =>
    refine BW.walk_lawE (l := PySem.Challenge.rw_boltwatch_k51_whole_guards) (k := 10) (m := BW.m_law) BW.lawOk rfl (by kernel_rfl) ⟨rfl, by decide, by decide⟩ ?F
    intro w mg fa h Y G hmg0
    obtain ⟨K, KX, c⟩ := Y
    have hmg : mg ("law" : PySem.Str) = some (.ref fa) := by
      have e : (HandSHeadRun.topDef (PySem.W.OpenLaw.row PySem.Challenge.rw_boltwatch_k51_whole_guards).prog 52).name = ("law" : PySem.Str) := by kernel_rfl
      rw [← e]
      exact hmg0
    obtain ⟨fd, hb, hF⟩ := BW.all_mk (l := PySem.Challenge.rw_boltwatch_k51_whole_guards) (w := w) KX G hmg c
    exact ⟨K, fd, KX, hb, hF⟩
