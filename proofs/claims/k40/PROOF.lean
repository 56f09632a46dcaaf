import PyProof.Rows.All
import Wide.All
import OpenK.AllK
import Wide.FinOn
import HandS.ForMost
import HandS.ForExc
import HandS.TupAny
import HandS.TupMul
import HandS.Deep
import HandS.Style
import HandS.IsInst
import HandS.Flow
import HandS.CallSlots
import HandS.More
import KE.GoesEnum
import HandS.Zip
import HandS.SortInts
import HandS.ExcIs
import HandS.HotCalls
import HandS.TupSets
import HandS.Strs
import HandS.Conv
import HandS.Sort
import PyProof.ListRange
import HandS.SuiteRaise
import KE.SortData
import HandS.TryOnly
import HandS.Iter
import PySem.Challenge.RW_boltwatch_k40_codes
set_option Elab.async false
set_option linter.all false
set_option maxRecDepth 100000
set_option maxHeartbeats 4000000
namespace BW
open PySem PySem.Spec PyProof.Rows L2
def tOb (us : List Value) : Obj := { cls := .type "tuple", data := .seq us.toArray }
section
variable {X : Cx} {pins : List (Addr × Obj)} {σ : L2.St} {H : Hp} {s : Shared}
theorem laidT {us : List Value} {xs : List V} (I : Inv X pins σ H s) (hr : Vals xs us) (hz : xs.length ≤ sizeLine) :
    Inv X pins σ (upd H s.heap.objs.size (.frz (tOb us) (.tup xs))) { s with heap := s.heap.push (tOb us) } ∧ H s.heap.objs.size = none := by
  have new : ObjOk X.prog X.w (upd H s.heap.objs.size (.frz (tOb us) (.tup xs))) (s.heap.push (tOb us)) s.heap.objs.size (.frz (tOb us) (.tup xs)) :=
    ⟨Heap.get?_push_size _ rfl, hz, us, hr, _, Heap.get?_push_size _ rfl, rfl, _, rfl⟩
  exact ⟨I.laid (t' := s.toks) (fun _ _ q => Heap.get?_push_of_some _ q) (Nat.le_refl _) new, I.hok.fresh (Nat.le_refl _)⟩
/-- a tuple of written items -/
def tTupS (t : TA) : TE := fun σ H Q => t σ H fun xs H1 => xs.length ≤ sizeLine ∧ ∀ p o, H1 p = none → o.dict = none → Q (.ref p) (upd H1 p (.frz o (.tup xs)))
theorem pe_tupS {es : List Expr} {t : TA} {x1} {pos : Pos} (ha : PA X es t) : PE X (.Tuple es x1 pos) (tTupS t) :=
  ⟨fun pins s σ H Q I hq => wpAny_Tuple_spliced (thn (ha.run pos pins s σ H _ I hq) fun us s1 ⟨xs, H1, I1, hr, hz, hQ⟩ =>
    ⟨by rw [← hr.length]; exact hz, let J := laidT I1 hr hz; ⟨.ref s1.heap.objs.size, _, J.1, rfl, hQ _ _ J.2 rfl⟩⟩)⟩
/-- one tuple behind another -/
def rCatS (K : PySem.W.Frag) : R2 := fun x y H Q => ∃ a b xs ys, x = .ref a ∧ y = .ref b ∧ SqT K H a xs ∧ SqT K H b ys ∧ xs.length + ys.length ≤ sizeLine ∧
  (xs = [] → Q (.ref b) H) ∧ (xs ≠ [] → ys = [] → Q (.ref a) H) ∧ (xs ≠ [] → ys ≠ [] → ∀ p o, H p = none → o.dict = none → Q (.ref p) (upd H p (.frz o (.tup (xs ++ ys)))))
theorem op_catS : OpR X (binaryOp .Add) (rCatS X.K) := by
  intro pins s σ H x y v u Q I rx ry h
  obtain ⟨a, b, xs, ys, e1, e2, ta, tb, hz, qa, qb, qc⟩ := h
  subst e1 e2
  by_cases hx : xs = []
  · exact op_catA pins s σ H _ _ v u Q I rx ry ⟨a, b, xs, ys, rfl, rfl, ta, tb, hz, qa, qb, fun z => absurd hx z⟩
  · cases rx
    cases ry
    obtain ⟨us, ru, pu, _⟩ := I.tuple ta
    obtain ⟨ws, rw', pw, _⟩ := I.tuple tb
    have hn : us ≠ [] := fun z => hx (ru.nil_iff.mp z)
    refine HT.cat_tup pu pw hn (fun z => ⟨.ref a, H, I, rfl, qb hx (rw'.nil_iff.mp z)⟩) (fun z => ?_) (by rw [← ru.length, ← rw'.length]; exact hz)
    have J := laidT I (ru.append rw') (by rw [List.length_append]; exact hz)
    exact ⟨.ref s.heap.objs.size, _, J.1, rfl, qc hx (fun e => z (rw'.nil_iff.mpr e)) _ _ J.2 rfl⟩
/-- a part of a tuple -/
def rSlS (K : PySem.W.Frag) : V → Option Int → Option Int → Hp → VK → Prop := fun x lo hi H Q => ∃ a xs, x = .ref a ∧ SqT K H a xs ∧
  (HT.sIx xs.length 0 lo = 0 ∧ HT.sIx xs.length xs.length hi = xs.length → Q (.ref a) H) ∧ (¬ (HT.sIx xs.length 0 lo = 0 ∧ HT.sIx xs.length xs.length hi = xs.length) → ∀ p o, H p = none → o.dict = none → Q (.ref p) (upd H p (.frz o (.tup (cutV xs lo hi)))))
theorem sl_tupS : SlR X (rSlS X.K) := by
  intro pins s σ H x v vl vu lo hi sl Q I rx hs pl pu h
  obtain ⟨a, xs, e1, ta, q1, q2⟩ := h
  subst e1
  by_cases hw : HT.sIx xs.length 0 lo = 0 ∧ HT.sIx xs.length xs.length hi = xs.length
  · exact sl_tupA pins s σ H _ v vl vu lo hi sl Q I rx hs pl pu ⟨a, xs, rfl, ta, q1, fun z => absurd hw z⟩
  · cases rx
    obtain ⟨us, ru, pt, hz⟩ := I.tuple ta
    have hn : us.toArray.size = xs.length := by rw [List.size_toArray, ru.length]
    refine ⟨"tuple", _, PyProof.Rows.slot_tuple_getitem.lookup, pt.typeIs, HT.getItem_tuple_cut pt hs pl pu (by rw [hn]; exact hw) ?_ (by rw [hn]; exact hz)⟩
    rw [hn]
    have J := laidT I ((ru.drop (HT.sIx xs.length 0 lo)).take (HT.sIx xs.length xs.length hi - HT.sIx xs.length 0 lo)) (Nat.le_trans (cutV_length xs lo hi) hz)
    exact ⟨.ref s.heap.objs.size, _, J.1, rfl, q2 hw _ _ J.2 rfl⟩
end
end BW
namespace BW
open PySem L2
inductive D where
  | non | bl (b : Bool) | int (i : Int) | str (x : Str)
  | tup (l : List D) | lst (l : List D) | dic (kvs : List (Key × D))
  | scr (ns : List Int) | ref (n : Nat)
inductive Cell where
  | lst (l : List D) | dic (kvs : List (Key × D)) | ins (c : Str) (fs : List (Str × D)) | dicL (kvs : List (Key × D))
abbrev Store := List Cell
inductive Slot where
  | dat (d : D) | own (l : List D) | ownd (kvs : List (Key × D)) | adr (a : Addr)
abbrev Env := List (Option Slot)
inductive Res (α : Type) where
  | ok (a : α) (S : Store) | err (c : Str) (S : Store) | bad
def Res.bind {α β : Type} (r : Res α) (k : α → Store → Res β) : Res β := match r with
  | .ok a S => k a S
  | .err c S => .err c S
  | .bad => .bad
def Res.of {α : Type} (S : Store) : Option α → Res α
  | some a => .ok a S
  | none => .bad
structure Wd where
  n : Nat
  k : Nat → Addr
  F : Hp
/-- a tuple's object has no dict of its own -/
def TD (K : PySem.W.Frag) (F : Hp) (a : Addr) : Prop := (∃ o u, F a = some (.frz o u) ∧ o.dict = none) ∨ ∃ o, K.lookup a = some o ∧ o.cls = .type "tuple" ∧ o.dict = none
section
variable (K : PySem.W.Frag) (w : Wd)
mutual
inductive R : V → D → Prop
  | non : R .non .non
  | bl (b : Bool) : R (.bl b) (.bl b)
  | int (i : Int) : R (.int i) (.int i)
  | str (x : Str) : R (.str x) (.str x)
  | tup {a : Addr} {vs : List V} {l : List D} : SqT K w.F a vs → TD K w.F a → RA vs l → R (.ref a) (.tup l)
  | lst {a : Addr} {vs : List V} {l : List D} : w.F a = some (.lst vs) → RA vs l → R (.ref a) (.lst l)
  | dic {a : Addr} {o : Obj} {vs : List (Key × V)} {l : List (Key × D)} : w.F a = some (.frz o (.dK vs)) → RK vs l → R (.ref a) (.dic l)
  | scr {a : Addr} {ns : List Int} : SqL K w.F a (ns.map V.int) → R (.ref a) (.scr ns)
  | ref {i : Nat} : i < w.n → R (.ref (w.k i)) (.ref i)
inductive RA : List V → List D → Prop
  | nil : RA [] []
  | cons {v : V} {d : D} {vs : List V} {ds : List D} : R v d → RA vs ds → RA (v :: vs) (d :: ds)
inductive RK : List (Key × V) → List (Key × D) → Prop
  | nil : RK [] []
  | cons {k : Key} {v : V} {d : D} {vs : List (Key × V)} {ds : List (Key × D)} : R v d → RK vs ds → RK ((k, v) :: vs) ((k, d) :: ds)
end
end
section
variable {K : PySem.W.Frag} {w : Wd}
theorem RA.length : ∀ {vs : List V} {ds : List D}, RA K w vs ds → vs.length = ds.length
  | _, _, .nil => rfl
  | _, _, .cons _ t => by simp [RA.length t]
theorem RA.get : ∀ {vs : List V} {ds : List D} {i : Nat} {d : D}, RA K w vs ds → ds[i]? = some d → ∃ v, vs[i]? = some v ∧ R K w v d
  | _, _, _, _, .nil, e => by simp at e
  | _, _, 0, _, .cons r _, e => by simp at e; subst e; exact ⟨_, rfl, r⟩
  | _, _, i + 1, _, .cons _ t, e => by
    obtain ⟨v, h1, h2⟩ := RA.get (i := i) t (by simpa using e)
    exact ⟨v, by simpa using h1, h2⟩
theorem RA.append : ∀ {vs us : List V} {ds es : List D}, RA K w vs ds → RA K w us es → RA K w (vs ++ us) (ds ++ es)
  | _, _, _, _, .nil, s => s
  | _, _, _, _, .cons r t, s => .cons r (RA.append t s)
theorem RA.one {v : V} {d : D} (r : R K w v d) : RA K w [v] [d] := .cons r .nil
theorem RA.take : ∀ {vs : List V} {ds : List D} (n : Nat), RA K w vs ds → RA K w (vs.take n) (ds.take n)
  | _, _, 0, _ => .nil
  | _, _, _ + 1, .nil => .nil
  | _, _, n + 1, .cons r t => .cons r (RA.take n t)
theorem RA.drop : ∀ {vs : List V} {ds : List D} (n : Nat), RA K w vs ds → RA K w (vs.drop n) (ds.drop n)
  | _, _, 0, r => r
  | _, _, _ + 1, .nil => .nil
  | _, _, n + 1, .cons _ t => RA.drop n t
theorem RA.set {v : V} {d : D} (r : R K w v d) : ∀ {vs : List V} {ds : List D} (i : Nat), RA K w vs ds → RA K w (vs.set i v) (ds.set i d)
  | _, _, _, .nil => .nil
  | _, _, 0, .cons _ t => .cons r t
  | _, _, i + 1, .cons q t => .cons q (RA.set r i t)
theorem RA.flat {vs : List V} {ds : List D} (h : RA K w vs ds) : ∀ k : Nat, RA K w (List.replicate k vs).flatten (List.replicate k ds).flatten
  | 0 => .nil
  | k + 1 => by rw [List.replicate_succ, List.replicate_succ, List.flatten_cons, List.flatten_cons]; exact h.append (RA.flat h k)
end
structure Ext (w : Wd) (H : Hp) (w' : Wd) (H' : Hp) : Prop where
  n : w.n ≤ w'.n
  k : ∀ i, i < w.n → w'.k i = w.k i
  F : Same w.F w'.F
  keep : ∀ a o, H a = some o → (∀ i, i < w.n → w.k i ≠ a) → H' a = some o
  there : ∀ a o, H a = some o → ∃ o', H' a = some o'
  newF : ∀ a o, w'.F a = some o → w.F a = some o ∨ H a = none
  newK : ∀ i, w.n ≤ i → i < w'.n → H (w'.k i) = none
  frz : ∀ a o u, H a = some (.frz o u) → H' a = some (.frz o u)
theorem Ext.refl (w : Wd) (H : Hp) : Ext w H w H := ⟨Nat.le_refl _, fun _ _ => rfl, Same.refl _, fun _ _ h _ => h, fun _ o h => ⟨o, h⟩, fun _ _ h => .inl h, fun i h1 h2 => absurd (Nat.lt_of_lt_of_le h2 h1) (Nat.lt_irrefl _), fun _ _ _ h => h⟩
theorem Ext.back {w w1 : Wd} {H H1 : Hp} (a : Ext w H w1 H1) {x : Addr} (h : H1 x = none) : H x = none := by
  cases e : H x with
  | none => rfl
  | some o =>
    obtain ⟨o', q⟩ := a.there x o e
    rw [q] at h; cases h
theorem Ext.trans {w w1 w2 : Wd} {H H1 H2 : Hp} (a : Ext w H w1 H1) (b : Ext w1 H1 w2 H2) : Ext w H w2 H2 := by
  have kp : ∀ x o, H x = some o → (∀ i, i < w.n → w.k i ≠ x) → ∀ i, i < w1.n → w1.k i ≠ x := fun x o h hk i hi => by
    by_cases q : i < w.n
    · rw [a.k i q]; exact hk i q
    · intro e
      have z := a.newK i (Nat.le_of_not_lt q) hi
      rw [e, h] at z; cases z
  refine ⟨Nat.le_trans a.n b.n, fun i hi => (b.k i (Nat.lt_of_lt_of_le hi a.n)).trans (a.k i hi), a.F.trans b.F, fun x o h hk => b.keep x o (a.keep x o h hk) (kp x o h hk), fun x o h => ?_, fun x o h => ?_, fun i h1 h2 => ?_, fun x o u h => b.frz x o u (a.frz x o u h)⟩
  · obtain ⟨o1, q1⟩ := a.there x o h
    exact b.there x o1 q1
  · rcases b.newF x o h with q | q
    · exact a.newF x o q
    · exact .inr (a.back q)
  · by_cases q : i < w1.n
    · rw [b.k i q]; exact a.newK i h1 q
    · exact a.back (b.newK i (Nat.le_of_not_lt q) h2)
section
variable {K : PySem.W.Frag} {w w' : Wd}
/-- what the relation leans on -/
structure Le (w w' : Wd) : Prop where
  n : w.n ≤ w'.n
  k : ∀ i, i < w.n → w'.k i = w.k i
  F : Same w.F w'.F
theorem Ext.le {H H' : Hp} (e : Ext w H w' H') : Le w w' := ⟨e.n, e.k, e.F⟩
theorem SqT.mono {F F' : Hp} {a : Addr} {xs : List V} (e : Same F F') (h : SqT K F a xs) : SqT K F' a xs := by
  rcases h with (h | ⟨o, h⟩) | h
  · exact .inl (.inl (e _ _ h))
  · exact .inl (.inr ⟨o, e _ _ h⟩)
  · exact .inr h
theorem Rd.mono {F F' : Hp} {a : Addr} {u : HO} (e : Same F F') (h : Rd F a u) : Rd F' a u := by
  rcases h with h | ⟨o, h⟩
  · exact .inl (e _ _ h)
  · exact .inr ⟨o, e _ _ h⟩
theorem TD.mono {K : PySem.W.Frag} {F F' : Hp} {a : Addr} (e : Same F F') (h : TD K F a) : TD K F' a := h.imp (fun ⟨o, u, h1, h2⟩ => ⟨o, u, e _ _ h1, h2⟩) id
mutual
theorem R.mono (e : Le w w') : ∀ {v : V} {d : D}, R K w v d → R K w' v d
  | _, _, .non => .non
  | _, _, .bl b => .bl b
  | _, _, .int i => .int i
  | _, _, .str x => .str x
  | _, _, .tup h d t => .tup (SqT.mono e.F h) (TD.mono e.F d) (RA.mono e t)
  | _, _, .lst h t => .lst (e.F _ _ h) (RA.mono e t)
  | _, _, .dic h t => .dic (e.F _ _ h) (RK.mono e t)
  | _, _, .scr h => .scr (e.F.seq h)
  | _, _, .ref (i := i) h => by
    rw [← e.k i h]
    exact .ref (Nat.lt_of_lt_of_le h e.n)
theorem RA.mono (e : Le w w') : ∀ {vs : List V} {ds : List D}, RA K w vs ds → RA K w' vs ds
  | _, _, .nil => .nil
  | _, _, .cons r t => .cons (R.mono e r) (RA.mono e t)
theorem RK.mono (e : Le w w') : ∀ {vs : List (Key × V)} {ds : List (Key × D)}, RK K w vs ds → RK K w' vs ds
  | _, _, .nil => .nil
  | _, _, .cons r t => .cons (R.mono e r) (RK.mono e t)
end
end
inductive RF (K : PySem.W.Frag) (w : Wd) : List (Str × V) → List (Str × D) → Prop
  | nil : RF K w [] []
  | cons {k : Str} {v : V} {d : D} {vs : List (Str × V)} {ds : List (Str × D)} : R K w v d → RF K w vs ds → RF K w ((k, v) :: vs) ((k, d) :: ds)
theorem RF.mono {K : PySem.W.Frag} {w w' : Wd} (e : Le w w') : ∀ {vs : List (Str × V)} {ds : List (Str × D)}, RF K w vs ds → RF K w' vs ds
  | _, _, .nil => .nil
  | _, _, .cons r t => .cons (r.mono e) (RF.mono e t)
def CellOk (K : PySem.W.Frag) (cl : Str → Addr) (w : Wd) (H : Hp) (a : Addr) : Cell → Prop
  | .lst l => ∃ vs, H a = some (.lst vs) ∧ RA K w vs l
  | .dic l => ∃ vs, H a = some (.dK vs) ∧ RK K w vs l
  | .ins c l => ∃ dx vs, H a = some (.ins (cl c) dx vs) ∧ RF K w vs l
  | .dicL l => ∃ o vs, H a = some (.frz o (.dK vs)) ∧ RK K w vs l
theorem CellOk.there {K : PySem.W.Frag} {cl : Str → Addr} {w : Wd} {H : Hp} {a : Addr} {c : Cell} (h : CellOk K cl w H a c) : ∃ o, H a = some o := by
  cases c with
  | lst l => obtain ⟨vs, h, _⟩ := h; exact ⟨_, h⟩
  | dic l => obtain ⟨vs, h, _⟩ := h; exact ⟨_, h⟩
  | ins c l => obtain ⟨dx, vs, h, _⟩ := h; exact ⟨_, h⟩
  | dicL l => obtain ⟨o, vs, h, _⟩ := h; exact ⟨_, h⟩
theorem CellOk.mono {K : PySem.W.Frag} {cl : Str → Addr} {w w' : Wd} {H H' : Hp} {a : Addr} {c : Cell} (e : Le w w') (hk : ∀ o, H a = some o → H' a = some o) (h : CellOk K cl w H a c) : CellOk K cl w' H' a c := by
  cases c with
  | lst l => obtain ⟨vs, h, r⟩ := h; exact ⟨vs, hk _ h, r.mono e⟩
  | dic l => obtain ⟨vs, h, r⟩ := h; exact ⟨vs, hk _ h, r.mono e⟩
  | ins c l => obtain ⟨dx, vs, h, r⟩ := h; exact ⟨dx, vs, hk _ h, r.mono e⟩
  | dicL l => obtain ⟨o, vs, h, r⟩ := h; exact ⟨o, vs, hk _ h, r.mono e⟩
structure Ok (K : PySem.W.Frag) (cl : Str → Addr) (w : Wd) (S : Store) (H : Hp) : Prop where
  len : w.n = S.length
  sub : Same w.F H
  cell : ∀ i c, S[i]? = some c → w.F (w.k i) = none ∧ CellOk K cl w H (w.k i) c
  inj : ∀ i j, i < w.n → j < w.n → w.k i = w.k j → i = j
/-- an own object of the frame: not frozen, no cell -/
structure Hid (w : Wd) (a : Addr) : Prop where
  nF : w.F a = none
  nK : ∀ i, i < w.n → w.k i ≠ a
def SlotOk (K : PySem.W.Frag) (w : Wd) (H : Hp) : Slot → V → Prop
  | .dat d, v => R K w v d
  | .own l, v => ∃ a vs, v = .ref a ∧ H a = some (.lst vs) ∧ RA K w vs l ∧ Hid w a
  | .ownd l, v => ∃ a vs, v = .ref a ∧ H a = some (.dK vs) ∧ RK K w vs l ∧ Hid w a
  | .adr a, v => v = .ref a
def Slot.isOwn : Slot → Bool
  | .dat _ => false
  | .adr _ => false
  | _ => true
structure EnvR (K : PySem.W.Frag) (w : Wd) (H : Hp) (σ : L2.St) (ρ : Env) : Prop where
  len : σ.length = ρ.length
  slot : ∀ (i : Nat) (s : Slot), ρ[i]? = some (some s) → ∃ v, σ[i]? = some (some v) ∧ SlotOk K w H s v
  sep : ∀ (i j : Nat) (s t : Slot) (v : V), i ≠ j → ρ[i]? = some (some s) → ρ[j]? = some (some t) → s.isOwn = true → t.isOwn = true → σ[i]? = some (some v) → σ[j]? = some (some v) → False
section
variable {K : PySem.W.Frag} {w w' : Wd} {H H' : Hp} {σ : L2.St} {ρ : Env}
theorem Hid.mono {a : Addr} {o : HO} (e : Ext w H w' H') (ha : H a = some o) (h : Hid w a) : Hid w' a := by
  refine ⟨?_, fun i hi => ?_⟩
  · cases q : w'.F a with
    | none => rfl
    | some u =>
      rcases e.newF a u q with z | z
      · rw [h.nF] at z; cases z
      · rw [ha] at z; cases z
  · by_cases q : i < w.n
    · rw [e.k i q]; exact h.nK i q
    · intro z
      have y := e.newK i (Nat.le_of_not_lt q) hi
      rw [z, ha] at y; cases y
theorem SlotOk.mono {s : Slot} {v : V} (e : Ext w H w' H') (h : SlotOk K w H s v) : SlotOk K w' H' s v := by
  cases s with
  | adr a => exact h
  | dat d => exact R.mono e.le h
  | own l =>
    obtain ⟨a, vs, rfl, ha, r, hi⟩ := h
    exact ⟨a, vs, rfl, e.keep a _ ha hi.nK, r.mono e.le, hi.mono e ha⟩
  | ownd l =>
    obtain ⟨a, vs, rfl, ha, r, hi⟩ := h
    exact ⟨a, vs, rfl, e.keep a _ ha hi.nK, r.mono e.le, hi.mono e ha⟩
theorem EnvR.mono (e : Ext w H w' H') (h : EnvR K w H σ ρ) : EnvR K w' H' σ ρ :=
  ⟨h.len, fun i s hs => let ⟨v, h1, h2⟩ := h.slot i s hs; ⟨v, h1, h2.mono e⟩, h.sep⟩
end
section
variable (K : PySem.W.Frag) (cl : Str → Addr)
def Post {α β : Type} (W : WX) (σ : L2.St) (Rl : Wd → β → α → Prop) (w : Wd) (H : Hp) (r : Res α) (Q : β → Hp → Prop) : Prop := match r with
  | .ok d S' => ∀ w' v H', Ext w H w' H' → Ok K cl w' S' H' → Rl w' v d → Q v H'
  | .err c S' => ∀ w' H', Ext w H w' H' → Ok K cl w' S' H' → W (.ref (cl c)) none σ H'
  | .bad => False
def tG {α β : Type} (W : WX) (Rl : Wd → β → α → Prop) (f : Env → Store → Res α) : L2.St → Hp → (β → Hp → Prop) → Prop := fun σ H Q =>
  ∃ w ρ S, Ok K cl w S H ∧ EnvR K w H σ ρ ∧ Post K cl W σ Rl w H (f ρ S) Q
abbrev RB : Wd → Bool → Bool → Prop := fun _ b c => b = c
end
abbrev DE (X : Cx) (cl : Str → Addr) (W : WX) (e : Expr) (f : Env → Store → Res D) : Prop := PE X e (tG X.K cl W (R X.K) f)
abbrev DT (X : Cx) (cl : Str → Addr) (W : WX) (e : Expr) (f : Env → Store → Res Bool) : Prop := PT X e (tG X.K cl W RB f)
abbrev DW (X : Cx) (cl : Str → Addr) (W : WX) (e : Expr) (f : Env → Store → Res Bool) : Prop := PW X e (tG X.K cl W RB f)
abbrev DA (X : Cx) (cl : Str → Addr) (W : WX) (es : List Expr) (f : Env → Store → Res (List D)) : Prop := PA X es (tG X.K cl W (RA X.K) f)
section
variable {K : PySem.W.Frag} {cl : Str → Addr} {W : WX} {σ : L2.St} {w w' : Wd} {H H' : Hp}
theorem Post.mono {α β : Type} {Rl : Wd → β → α → Prop} {r : Res α} {Q : β → Hp → Prop} (e : Ext w H w' H') (h : Post K cl W σ Rl w H r Q) : Post K cl W σ Rl w' H' r Q := by
  cases r with
  | ok d S => exact fun w2 v H2 e2 o2 r2 => h w2 v H2 (e.trans e2) o2 r2
  | err c S => exact fun w2 H2 e2 o2 => h w2 H2 (e.trans e2) o2
  | bad => exact h
theorem Post.bind {α β α' β' : Type} {Rl : Wd → β → α → Prop} {Rl' : Wd → β' → α' → Prop} {r : Res α} {k : α → Store → Res α'} {Q : β' → Hp → Prop} {Q1 : β → Hp → Prop} (h : Post K cl W σ Rl' w H (r.bind k) Q)
    (hk : ∀ d S1 w1 v H1, Ext w H w1 H1 → Ok K cl w1 S1 H1 → Rl w1 v d → Post K cl W σ Rl' w1 H1 (k d S1) Q → Q1 v H1) : Post K cl W σ Rl w H r Q1 := by
  cases r with
  | ok d S => exact fun w1 v H1 e1 o1 r1 => hk d S w1 v H1 e1 o1 r1 (Post.mono e1 h)
  | err c S => exact h
  | bad => exact h
/-- the start of a reading -/
theorem tG.at {α β : Type} {Rl : Wd → β → α → Prop} {f : Env → Store → Res α} {ρ : Env} {S : Store} {Q : β → Hp → Prop} (o : Ok K cl w S H) (n : EnvR K w H σ ρ) (p : Post K cl W σ Rl w H (f ρ S) Q) : tG K cl W Rl f σ H Q := ⟨w, ρ, S, o, n, p⟩
theorem Post.here {α β : Type} {Rl : Wd → β → α → Prop} {d : α} {S : Store} {Q : β → Hp → Prop} {v : β} (h : Post K cl W σ Rl w H (.ok d S) Q) (o : Ok K cl w S H) (r : Rl w v d) : Q v H := h w v H (Ext.refl _ _) o r
end
theorem PE.imp {X : Cx} {e : Expr} {t t' : TE} (h : PE X e t) (i : ∀ σ H Q, t' σ H Q → t σ H Q) : PE X e t' := ⟨fun pins s σ H Q I q => h.run pins s σ H Q I (i σ H Q q)⟩
theorem PT.imp {X : Cx} {e : Expr} {t t' : TT} (h : PT X e t) (i : ∀ σ H Q, t' σ H Q → t σ H Q) : PT X e t' := ⟨fun pins s σ H Q I q => h.run pins s σ H Q I (i σ H Q q)⟩
theorem PW.imp {X : Cx} {e : Expr} {t t' : TT} (h : PW X e t) (i : ∀ σ H Q, t' σ H Q → t σ H Q) : PW X e t' := ⟨fun wh pins s σ H Q I q => h.run wh pins s σ H Q I (i σ H Q q)⟩
theorem PA.imp {X : Cx} {e : List Expr} {t t' : TA} (h : PA X e t) (i : ∀ σ H Q, t' σ H Q → t σ H Q) : PA X e t' := ⟨fun p pins s σ H Q I q => h.run p pins s σ H Q I (i σ H Q q)⟩
theorem PS.imp {X : Cx} {e : Stmt} {t t' : TS} (h : PS X e t) (i : ∀ D σ H, t' D σ H → t D σ H) : PS X e t' := ⟨fun pins s σ H D I q => h.run pins s σ H D I (i D σ H q)⟩
theorem PSs.imp {X : Cx} {e : List Stmt} {t t' : TS} (h : PSs X e t) (i : ∀ D σ H, t' D σ H → t D σ H) : PSs X e t' := ⟨fun pins s σ H D I q => h.run pins s σ H D I (i D σ H q)⟩
def fC (d : D) : Env → Store → Res D := fun _ S => .ok d S
def fV (i : Nat) : Env → Store → Res D := fun ρ S => match ρ[i]? with
  | some (some (.dat d)) => .ok d S
  | _ => .bad
section
variable {X : Cx} {cl : Str → Addr} {W : WX}
theorem de_v (i : Nat) {x : Str} {pos : Pos} (h : PE X (.Name x pos) (tVar i)) : DE X cl W (.Name x pos) (fV i) := by
  refine PE.imp h fun σ H Q ⟨w, ρ, S, o, n, p⟩ => ?_
  unfold fV at p
  split at p
  · rename_i d e
    obtain ⟨v, h1, h2⟩ := n.slot i _ e
    exact ⟨v, h1, p.here o h2⟩
  · exact p.elim
theorem de_c {e : Expr} {v : V} {d : D} (h : PE X e (tC v)) (r : ∀ w, R X.K w v d) : DE X cl W e (fC d) :=
  PE.imp h fun σ H Q ⟨w, ρ, S, o, n, p⟩ => p.here o (r w)
theorem de_int {i j pos} : DE X cl W (.Constant (.int i) j pos) (fC (.int i)) := de_c pe_int fun _ => .int i
theorem de_bl {b j pos} : DE X cl W (.Constant (.bool b) j pos) (fC (.bl b)) := de_c pe_bl fun _ => .bl b
theorem de_non {j pos} : DE X cl W (.Constant .none j pos) (fC .non) := de_c pe_non fun _ => .non
theorem de_str {x j pos} : DE X cl W (.Constant (.str x) j pos) (fC (.str x)) := de_c pe_str fun _ => .str x
def fNil : Env → Store → Res (List D) := fun _ S => .ok [] S
def fCons (f : Env → Store → Res D) (g : Env → Store → Res (List D)) : Env → Store → Res (List D) := fun ρ S =>
  (f ρ S).bind fun d S1 => (g ρ S1).bind fun ds S2 => .ok (d :: ds) S2
theorem da_nil : DA X cl W [] fNil := PA.imp pa_nil fun σ H Q ⟨w, ρ, S, o, n, p⟩ => p.here o .nil
theorem da_cons {e : Expr} {es : List Expr} {f : Env → Store → Res D} {g : Env → Store → Res (List D)} (h : DE X cl W e f) (t : DA X cl W es g)
    (hs : starEach (e :: es) X.env = (false, eval e X.env) :: starEach es X.env := by rfl) : DA X cl W (e :: es) (fCons f g) := by
  refine PA.imp (pa_cons h t hs) fun σ H Q ⟨w, ρ, S, o, n, p⟩ => ?_
  refine tG.at o n (Post.bind p fun d S1 w1 v H1 e1 o1 r1 p1 => tG.at o1 (n.mono e1) (Post.bind p1 fun ds S2 w2 vs H2 e2 o2 r2 p2 => ?_))
  exact p2.here o2 (.cons (r1.mono e2.le) r2)
end
end BW
namespace BW
open PySem L2
def LIM : Nat := 100000
theorem lim_le {n : Nat} (h : n ≤ LIM) : n ≤ sizeLine := Nat.le_trans h (by decide)
theorem lim_lt {n : Nat} (h : n < LIM) : n < sizeLine := Nat.lt_of_lt_of_le h (by decide)
section
variable {K : PySem.W.Frag} {cl : Str → Addr} {W : WX} {σ : L2.St} {w : Wd} {S : Store} {H : Hp}
/-- a frozen new object -/
def Wd.lay (w : Wd) (p : Addr) (o : HO) : Wd := { w with F := upd w.F p o }
theorem Ok.laid (k : Ok K cl w S H) {p : Addr} {o : HO} (hp : H p = none) : Ext w H (w.lay p o) (upd H p o) ∧ Ok K cl (w.lay p o) S (upd H p o) := by
  have nF : w.F p = none := by
    cases e : w.F p with
    | none => rfl
    | some u => rw [k.sub p u e] at hp; cases hp
  have ext : Ext w H (w.lay p o) (upd H p o) := by
    refine ⟨Nat.le_refl _, fun _ _ => rfl, fun b u h => ?_, fun b u h _ => ?_, fun b u h => ?_, fun b u h => ?_, fun i h1 h2 => absurd (Nat.lt_of_lt_of_le h2 h1) (Nat.lt_irrefl _), fun b q u h => by rw [upd_ne (ne_of_none h hp)]; exact h⟩
    · show upd w.F p o b = some u
      rw [upd_ne (ne_of_none h nF)]; exact h
    · rw [upd_ne (ne_of_none h hp)]; exact h
    · exact ⟨u, by rw [upd_ne (ne_of_none h hp)]; exact h⟩
    · by_cases e : b = p
      · subst e; exact .inr hp
      · have h : upd w.F p o b = some u := h
        rw [upd_ne e] at h; exact .inl h
  refine ⟨ext, k.len, fun b u h => ?_, fun i c h => ?_, k.inj⟩
  · have h : upd w.F p o b = some u := h
    by_cases e : b = p
    · subst e; rw [upd_same] at h ⊢; exact h
    · rw [upd_ne e] at h ⊢; exact k.sub b u h
  · obtain ⟨h1, h2⟩ := k.cell i c h
    obtain ⟨u, hu⟩ := h2.there
    have ne : w.k i ≠ p := ne_of_none hu hp
    refine ⟨?_, CellOk.mono ext.le (fun v hv => ?_) h2⟩
    · show upd w.F p o (w.k i) = none
      rw [upd_ne ne]; exact h1
    · show upd H p o (w.k i) = some v
      rw [upd_ne ne]; exact hv
theorem Ok.layT (k : Ok K cl w S H) {p : Addr} {q : Obj} {vs : List V} {ds : List D} (hp : H p = none) (hq : q.dict = none) (r : RA K w vs ds) : Ext w H (w.lay p (.frz q (.tup vs))) (upd H p (.frz q (.tup vs))) ∧ Ok K cl (w.lay p (.frz q (.tup vs))) S (upd H p (.frz q (.tup vs))) ∧ R K (w.lay p (.frz q (.tup vs))) (.ref p) (.tup ds) :=
  let ⟨e, o⟩ := k.laid hp; ⟨e, o, .tup (.inl (.inr ⟨q, upd_same⟩)) (.inl ⟨q, _, upd_same, hq⟩) (r.mono e.le)⟩
/-- a tuple that may be used up (of a pair that a walk yields) -/
def Rw (K : PySem.W.Frag) (w : Wd) (v : V) (d : D) : Prop := R K w v d ∨ ∃ a vs l, v = .ref a ∧ d = .tup l ∧ SqT K w.F a vs ∧ RA K w vs l
def Rb (b : Bool) (K : PySem.W.Frag) (w : Wd) (v : V) (d : D) : Prop := if b = true then Rw K w v d else R K w v d
theorem Ok.layL (k : Ok K cl w S H) {p : Addr} {vs : List V} {ds : List D} (hp : H p = none) (r : RA K w vs ds) : Ext w H (w.lay p (.lst vs)) (upd H p (.lst vs)) ∧ Ok K cl (w.lay p (.lst vs)) S (upd H p (.lst vs)) ∧ R K (w.lay p (.lst vs)) (.ref p) (.lst ds) :=
  let ⟨e, o⟩ := k.laid hp; ⟨e, o, .lst upd_same (r.mono e.le)⟩
theorem Ok.layD (k : Ok K cl w S H) {p : Addr} {q : Obj} {vs : List (Key × V)} {ds : List (Key × D)} (hp : H p = none) (r : RK K w vs ds) : Ext w H (w.lay p (.frz q (.dK vs))) (upd H p (.frz q (.dK vs))) ∧ Ok K cl (w.lay p (.frz q (.dK vs))) S (upd H p (.frz q (.dK vs))) ∧ R K (w.lay p (.frz q (.dK vs))) (.ref p) (.dic ds) :=
  let ⟨e, o⟩ := k.laid hp; ⟨e, o, .dic upd_same (r.mono e.le)⟩
/-- reading frozen things in H -/
theorem Ok.sqT (k : Ok K cl w S H) {a : Addr} {vs : List V} (h : SqT K w.F a vs) : SqT K H a vs := SqT.mono k.sub h
theorem Ok.sqL (k : Ok K cl w S H) {a : Addr} {vs : List V} (h : w.F a = some (.lst vs)) : SqL K H a vs := SqL.of (k.sub _ _ h)
theorem Post.okT {α β : Type} {Rl : Wd → β → α → Prop} {d : α} {S' : Store} {Q : β → Hp → Prop} {v : β} {w' : Wd} {H' : Hp} (h : Post K cl W σ Rl w H (.ok d S') Q) (e : Ext w H w' H') (o : Ok K cl w' S' H') (r : Rl w' v d) : Q v H' := h w' v H' e o r
end
section
variable {X : Cx} {cl : Str → Addr} {W : WX}
def fTup (g : Env → Store → Res (List D)) : Env → Store → Res D := fun ρ S => (g ρ S).bind fun ds S1 => if ds.length ≤ LIM then .ok (.tup ds) S1 else .bad
def fLst (g : Env → Store → Res (List D)) : Env → Store → Res D := fun ρ S => (g ρ S).bind fun ds S1 => if ds.length ≤ LIM then .ok (.lst ds) S1 else .bad
theorem de_tup {es : List Expr} {x1} {pos : Pos} {g : Env → Store → Res (List D)} (h : DA X cl W es g) : DE X cl W (.Tuple es x1 pos) (fTup g) := by
  refine PE.imp (pe_tupS h) fun σ H Q ⟨w, ρ, S, o, n, p⟩ => tG.at o n (Post.bind p fun ds S1 w1 vs H1 e1 o1 r1 p1 => ?_)
  split at p1
  · rename_i hl
    refine ⟨lim_le (by rw [r1.length]; exact hl), fun q qo hq hd => ?_⟩
    obtain ⟨e, o', r⟩ := o1.layT hq hd r1
    exact p1.okT e o' r
  · exact p1.elim
theorem de_lst {es : List Expr} {pos : Pos} {g : Env → Store → Res (List D)} (h : DA X cl W es g) : DE X cl W (.List es pos) (fLst g) := by
  refine PE.imp (pe_lst h) fun σ H Q ⟨w, ρ, S, o, n, p⟩ => tG.at o n (Post.bind p fun ds S1 w1 vs H1 e1 o1 r1 p1 => ?_)
  split at p1
  · rename_i hl
    refine ⟨lim_le (by rw [r1.length]; exact hl), fun q hq => ?_⟩
    obtain ⟨e, o', r⟩ := o1.layL hq r1
    exact p1.okT e o' r
  · exact p1.elim
def r2 (K : PySem.W.Frag) (cl : Str → Addr) (g : D → D → Store → Option D) : R2 := fun x y H Q => ∃ w S d e z, Ok K cl w S H ∧ R K w x d ∧ R K w y e ∧ g d e S = some z ∧
  ∀ w' v H', Ext w H w' H' → Ok K cl w' S H' → R K w' v z → Q v H'
def f2 (g : D → D → Store → Option D) (fa fb : Env → Store → Res D) : Env → Store → Res D := fun ρ S => (fa ρ S).bind fun a S1 => (fb ρ S1).bind fun b S2 => Res.of S2 (g a b S2)
theorem OpR.imp {f : Value → Value → Sem Value} {r r' : R2} (h : OpR X f r) (i : ∀ x y H Q, r' x y H Q → r x y H Q) : OpR X f r' := by
  intro pins s σ H x y v u Q I rx ry q
  exact h pins s σ H x y v u Q I rx ry (i x y H Q q)
theorem of2 {f : Value → Value → Sem Value} {r : R2} {g : D → D → Store → Option D} (h : OpR X f r)
    (i : ∀ x y H Q w S d e z, Ok X.K cl w S H → R X.K w x d → R X.K w y e → g d e S = some z → (∀ w' v H', Ext w H w' H' → Ok X.K cl w' S H' → R X.K w' v z → Q v H') → r x y H Q) : OpR X f (r2 X.K cl g) :=
  OpR.imp h fun x y H Q ⟨w, S, d, e, z, k, r1, r2, hg, q⟩ => i x y H Q w S d e z k r1 r2 hg q
theorem t2_of {fa fb : Env → Store → Res D} {g : D → D → Store → Option D} {σ : L2.St} {H : Hp} {Q : VK} (h : tG X.K cl W (R X.K) (f2 g fa fb) σ H Q) :
    tOp (r2 X.K cl g) (tG X.K cl W (R X.K) fa) (tG X.K cl W (R X.K) fb) σ H Q := by
  obtain ⟨w, ρ, S, o, n, p⟩ := h
  refine tG.at o n (Post.bind p fun a S1 w1 x H1 e1 o1 r1 p1 => tG.at o1 (n.mono e1) (Post.bind p1 fun b S2 w2 y H2 e2 o2 r2 p2 => ?_))
  cases hg : g a b S2 with
  | none => rw [hg] at p2; exact p2.elim
  | some z =>
    rw [hg] at p2
    exact ⟨w2, S2, a, b, z, o2, r1.mono e2.le, r2, hg, fun w' v H' e' o' r' => p2.okT e' o' r'⟩
theorem de_bin {op : Operator} {a b : Expr} {pos : Pos} {g : D → D → Store → Option D} {fa fb : Env → Store → Res D} (ho : OpR X (binaryOp op) (r2 X.K cl g)) (ha : DE X cl W a fa) (hb : DE X cl W b fb) : DE X cl W (.BinOp a op b pos) (f2 g fa fb) :=
  PE.imp (pe_op ho ha hb) fun _ _ _ h => t2_of h
theorem de_cmp {op : CmpOp} {a b : Expr} {pos : Pos} {g : D → D → Store → Option D} {fa fb : Env → Store → Res D} (ho : OpR X (compareOp op) (r2 X.K cl g)) (ha : DE X cl W a fa) (hb : DE X cl W b fb) (hm : behindInMarks op b = false) : DE X cl W (.Compare a [op] [b] pos) (f2 g fa fb) :=
  PE.imp (pe_cmpR ho ha hb hm) fun _ _ _ h => t2_of h
/-- a value's place in the heap -/
theorem R.int_inv {K : PySem.W.Frag} {w : Wd} {v : V} {i : Int} (h : R K w v (.int i)) : v = .int i := by cases h; rfl
theorem R.bl_inv {K : PySem.W.Frag} {w : Wd} {v : V} {i : Bool} (h : R K w v (.bl i)) : v = .bl i := by cases h; rfl
theorem R.tup_inv {K : PySem.W.Frag} {w : Wd} {v : V} {l : List D} (h : R K w v (.tup l)) : ∃ a vs, v = .ref a ∧ SqT K w.F a vs ∧ RA K w vs l := by cases h; exact ⟨_, _, rfl, by assumption, by assumption⟩
theorem R.lst_inv {K : PySem.W.Frag} {w : Wd} {v : V} {l : List D} (h : R K w v (.lst l)) : ∃ a vs, v = .ref a ∧ w.F a = some (.lst vs) ∧ RA K w vs l := by cases h; exact ⟨_, _, rfl, by assumption, by assumption⟩
theorem R.dic_inv {K : PySem.W.Frag} {w : Wd} {v : V} {l : List (Key × D)} (h : R K w v (.dic l)) : ∃ a vs, v = .ref a ∧ Rd w.F a (.dK vs) ∧ RK K w vs l := by cases h with | dic h1 h2 => exact ⟨_, _, rfl, .inr ⟨_, h1⟩, h2⟩
theorem R.dic_frz {K : PySem.W.Frag} {w : Wd} {v : V} {l : List (Key × D)} (h : R K w v (.dic l)) : ∃ a q vs, v = .ref a ∧ w.F a = some (.frz q (.dK vs)) ∧ RK K w vs l := by cases h with | dic h1 h2 => exact ⟨_, _, _, rfl, h1, h2⟩
theorem R.scr_inv {K : PySem.W.Frag} {w : Wd} {v : V} {l : List Int} (h : R K w v (.scr l)) : ∃ a, v = .ref a ∧ SqL K w.F a (l.map V.int) := by cases h; exact ⟨_, rfl, by assumption⟩
theorem R.ref_inv {K : PySem.W.Frag} {w : Wd} {v : V} {i : Nat} (h : R K w v (.ref i)) : v = .ref (w.k i) ∧ i < w.n := by cases h; exact ⟨rfl, by assumption⟩
def gAdd : D → D → Store → Option D
  | .int i, .int j, _ => some (.int (i + j))
  | .str a, .str b, _ => if a.length + b.length ≤ LIM then some (.str (a ++ b)) else none
  | .tup a, .tup b, _ => if a.length + b.length ≤ LIM then some (.tup (a ++ b)) else none
  | .lst a, .lst b, _ => if a.length + b.length ≤ LIM then some (.lst (a ++ b)) else none
  | _, _, _ => none
theorem o_add : OpR X (binaryOp .Add) (r2 X.K cl gAdd) := by
  refine of2 (op_add.or (op_add_str.or (op_catS.or op_cat))) fun x y H Q w S d e z k r1 r2 hg q => ?_
  cases d <;> cases e <;> simp only [gAdd] at hg <;> try cases hg
  · cases r1; cases r2
    exact .inl ⟨_, _, rfl, rfl, q w _ H (Ext.refl _ _) k (.int _)⟩
  · cases r1; cases r2
    split at hg
    · rename_i hl
      cases hg
      exact .inr (.inl ⟨_, _, rfl, rfl, lim_le hl, q w _ H (Ext.refl _ _) k (.str _)⟩)
    · cases hg
  · obtain ⟨a, vs, rfl, ha, ra⟩ := r1.tup_inv
    obtain ⟨b, us, rfl, hb, rb⟩ := r2.tup_inv
    split at hg
    · rename_i hl
      cases hg
      refine .inr (.inr (.inl ⟨a, b, vs, us, rfl, rfl, k.sqT ha, k.sqT hb, lim_le (by rw [ra.length, rb.length]; exact hl), fun e => ?_, fun _ e => ?_, fun _ _ p po hp hd => ?_⟩))
      · subst e; cases ra
        exact q w _ H (Ext.refl _ _) k r2
      · subst e; cases rb
        rw [List.append_nil] at q
        exact q w _ H (Ext.refl _ _) k r1
      · obtain ⟨e, o, r⟩ := k.layT hp hd (ra.append rb)
        exact q _ _ _ e o r
    · cases hg
  · obtain ⟨a, vs, rfl, ha, ra⟩ := r1.lst_inv
    obtain ⟨b, us, rfl, hb, rb⟩ := r2.lst_inv
    split at hg
    · rename_i hl
      cases hg
      refine .inr (.inr (.inr ⟨a, b, vs, us, rfl, rfl, k.sub _ _ ha, k.sub _ _ hb, lim_le (by rw [ra.length, rb.length]; exact hl), fun p hp => ?_⟩))
      obtain ⟨e, o, r⟩ := k.layL hp (ra.append rb)
      exact q _ _ _ e o r
    · cases hg
def gSub : D → D → Store → Option D
  | .int i, .int j, _ => some (.int (i - j))
  | _, _, _ => none
theorem o_sub : OpR X (binaryOp .Sub) (r2 X.K cl gSub) := by
  refine of2 op_sub fun x y H Q w S d e z k r1 r2 hg q => ?_
  cases d <;> cases e <;> simp only [gSub] at hg <;> try cases hg
  cases r1; cases r2
  exact ⟨_, _, rfl, rfl, q w _ H (Ext.refl _ _) k (.int _)⟩
def gFdiv : D → D → Store → Option D
  | .int i, .int j, _ => if 0 < j ∧ j < 1073741824 then some (.int (i / j)) else none
  | _, _, _ => none
theorem o_fdiv : OpR X (binaryOp .FloorDiv) (r2 X.K cl gFdiv) := by
  refine of2 op_fdiv fun x y H Q w S d e z k r1 r2 hg q => ?_
  cases d <;> cases e <;> simp only [gFdiv] at hg <;> try cases hg
  cases r1; cases r2
  split at hg
  · rename_i hc
    cases hg
    exact ⟨_, _, rfl, rfl, hc, q w _ H (Ext.refl _ _) k (.int _)⟩
  · cases hg
def gMod : D → D → Store → Option D
  | .int i, .int j, _ => if 0 < j then some (.int (i % j)) else none
  | _, _, _ => none
theorem o_mod : OpR X (binaryOp .Mod) (r2 X.K cl gMod) := by
  refine of2 op_mod fun x y H Q w S d e z k r1 r2 hg q => ?_
  cases d <;> cases e <;> simp only [gMod] at hg <;> try cases hg
  cases r1; cases r2
  split at hg
  · rename_i hc
    cases hg
    exact ⟨_, _, rfl, rfl, hc, q w _ H (Ext.refl _ _) k (.int _)⟩
  · cases hg
def gMul : D → D → Store → Option D
  | .int i, .int j, _ => if (-(2 ^ 64) < i ∧ i < 2 ^ 64) ∨ (-(2 ^ 64) < j ∧ j < 2 ^ 64) then some (.int (i * j)) else none
  | .lst l, .int j, _ => if 0 ≤ j ∧ j ≤ 1000 ∧ l.length ≤ 100 then some (.lst (List.replicate j.toNat l).flatten) else none
  | _, _, _ => none
theorem o_mul : OpR X (binaryOp .Mult) (r2 X.K cl gMul) := by
  refine of2 (op_mul.or op_rep) fun x y H Q w S d e z k r1 r2 hg q => ?_
  cases d <;> cases e <;> simp only [gMul] at hg <;> try cases hg
  · cases r1; cases r2
    split at hg
    · rename_i hc
      cases hg
      exact .inl ⟨_, _, rfl, rfl, hc, q w _ H (Ext.refl _ _) k (.int _)⟩
    · cases hg
  · obtain ⟨a, vs, rfl, ha, ra⟩ := r1.lst_inv
    cases r2
    split at hg
    · rename_i j hc
      obtain ⟨h1, h2, h3⟩ := hc
      cases hg
      refine .inr ⟨a, _, vs, rfl, rfl, k.sub _ _ ha, by omega, by omega, ?_, fun p hp => ?_⟩
      · rw [ra.length]
        refine lim_le ?_
        exact Nat.le_trans (Nat.mul_le_mul h3 (show j.toNat ≤ 1000 by omega)) (by decide)
      · obtain ⟨e, o, r⟩ := k.layL hp (ra.flat j.toNat)
        exact q _ _ _ e o r
    · cases hg
end
end BW
namespace BW
open PySem L2
mutual
def toPy : D → PyData
  | .non => .none
  | .bl b => .bool b
  | .int i => .int i
  | .str x => .str x
  | .tup l => .tuple (toPys l)
  | .lst l => .list (toPys l)
  | .dic _ => .none
  | .scr ns => .list (ns.map .int)
  | .ref _ => .none
def toPys : List D → List PyData
  | [] => []
  | d :: l => toPy d :: toPys l
end
/-- no names, no dicts, at most n deep -/
def okD : Nat → D → Bool
  | _, .non => true
  | _, .bl _ => true
  | _, .int _ => true
  | _, .str x => PyData.strOk x
  | n + 1, .tup l => l.all (okD n)
  | n + 1, .lst l => l.all (okD n)
  | n + 1, .scr _ => true
  | _, _ => false
/-- == -/
def deq (a b : D) : Bool := PyData.eqv (toPy a) (toPy b)
def deqs (a b : List D) : Bool := PyData.eqvAll (toPys a) (toPys b)
theorem canLayAll_ints : ∀ ns : List Int, PyData.canLayAll0 (ns.map .int) = true
  | [] => rfl
  | n :: ns => by simp [PyData.canLayAll0, PyData.canLay0, canLayAll_ints ns]
theorem depthAll_ints : ∀ ns : List Int, PyData.depthAll (ns.map .int) ≤ 1
  | [] => by simp [PyData.depthAll]
  | n :: ns => by
    have := depthAll_ints ns
    simp only [List.map_cons, PyData.depthAll, PyData.depth]
    omega
theorem okD_lay : ∀ (n : Nat) (d : D), okD n d = true → (toPy d).canLay0 = true ∧ (toPy d).depth ≤ n + 1 := by
  have all : ∀ (n : Nat), (∀ d, okD n d = true → (toPy d).canLay0 = true ∧ (toPy d).depth ≤ n + 1) → ∀ l : List D, l.all (okD n) = true → PyData.canLayAll0 (toPys l) = true ∧ PyData.depthAll (toPys l) ≤ n + 1 := by
    intro n ih l
    induction l with
    | nil => intro _; simp [toPys, PyData.canLayAll0, PyData.depthAll]
    | cons d l il =>
      intro h
      simp only [List.all_cons, Bool.and_eq_true] at h
      obtain ⟨h1, h2⟩ := ih d h.1
      obtain ⟨h3, h4⟩ := il h.2
      simp only [toPys, PyData.canLayAll0, PyData.depthAll, h1, h3, Bool.and_self, true_and]
      omega
  intro n
  induction n with
  | zero =>
    intro d h
    cases d <;> simp_all [okD, toPy, PyData.canLay0, PyData.depth]
  | succ n ih =>
    intro d h
    cases d with
    | tup l =>
      obtain ⟨h1, h2⟩ := all n ih l (by simpa [okD] using h)
      simp only [toPy, PyData.canLay0, PyData.depth, h1, true_and]
      omega
    | lst l =>
      obtain ⟨h1, h2⟩ := all n ih l (by simpa [okD] using h)
      simp only [toPy, PyData.canLay0, PyData.depth, h1, true_and]
      omega
    | scr ns =>
      have := depthAll_ints ns
      simp only [toPy, PyData.canLay0, PyData.depth, canLayAll_ints, true_and]
      omega
    | _ => simp_all [okD, toPy, PyData.canLay0, PyData.depth]
theorem okD_shaped {n : Nat} {d : D} (h : okD n d = true) (hn : n ≤ 60) : SeqAt.shaped (toPy d) = true := by
  obtain ⟨h1, h2⟩ := okD_lay n d h
  unfold SeqAt.shaped
  rw [h1, Bool.true_and]
  exact decide_eq_true (by omega)
theorem dpAll_ints {K : PySem.W.Frag} {H : Hp} : ∀ ns : List Int, DpAll K H (ns.map V.int) (ns.map .int)
  | [] => .nil
  | n :: ns => .cons (.int n) (dpAll_ints ns)
section
variable {K : PySem.W.Frag} {cl : Str → Addr} {w : Wd} {S : Store} {H : Hp}
theorem Ok.dp (k : Ok K cl w S H) : ∀ (n : Nat) {v : V} {d : D}, R K w v d → okD n d = true → Dp K H v (toPy d) := by
  have all : ∀ n, (∀ {v : V} {d : D}, R K w v d → okD n d = true → Dp K H v (toPy d)) → ∀ {l : List D} {vs : List V}, RA K w vs l → l.all (okD n) = true → DpAll K H vs (toPys l) := by
    intro n ih l
    induction l with
    | nil => intro vs r _; cases r; exact .nil
    | cons d l il =>
      intro vs r h
      simp only [List.all_cons, Bool.and_eq_true] at h
      cases r with
      | cons r t => exact .cons (ih r h.1) (il t h.2)
  intro n
  induction n with
  | zero => intro v d r h; cases r <;> first | exact .non | exact .bl _ | exact .int _ | exact .str _ | (simp [okD] at h)
  | succ n ih =>
    intro v d r h
    cases r with
    | non => exact .non
    | bl b => exact .bl b
    | int i => exact .int i
    | str x => exact .str x
    | tup a _ b => exact .tup (k.sqT a) (all n ih b (by simpa [okD] using h))
    | lst a b => exact .lst (k.sqL a) (all n ih b (by simpa [okD] using h))
    | dic a b => simp [okD] at h
    | scr a => exact .lst (k.sub.seq a) (dpAll_ints _)
    | ref a => simp [okD] at h
end
section
variable {X : Cx} {cl : Str → Addr} {W : WX}
/-- a list that has something, beside the empty one -/
def isNE : D → D → Bool
  | .lst (_ :: _), .lst [] => true
  | _, _ => false
def gEq (neg : Bool) : D → D → Store → Option D := fun a b _ => if okD 12 a && okD 12 b then some (.bl (xor neg (deq a b))) else if (!neg && isNE a b) = true then some (.bl false) else none
def rEqN (K : PySem.W.Frag) : R2 := fun x y H Q => ∃ a b xs, x = .ref a ∧ y = .ref b ∧ SqL K H a xs ∧ SqL K H b [] ∧ xs ≠ [] ∧ Q (.bl false) H
theorem op_eqN (hu : X.A.units + 64 < cLine) : OpR X (compareOp .Eq) (rEqN X.K) := by
  intro pins s σ H x y v u Q I rx ry h
  obtain ⟨a, b, xs, rfl, rfl, ha, hb, hx, q⟩ := h
  cases (show v = Value.ref a from rx)
  cases (show u = Value.ref b from ry)
  obtain ⟨us, r1, p1, _⟩ := I.list ha
  obtain ⟨ws, r2, p2, _⟩ := I.list hb
  have hsz : (us.toArray.size != ws.toArray.size) = true := by
    rw [List.size_toArray, List.size_toArray, ← r1.length, ← r2.length]
    cases xs with
    | nil => exact absurd rfl hx
    | cons z l => simp
  exact SeqAt.RcAt.lists_lengths (A := X.A) p1.isList p2.isList hsz (by omega) _ _ _ _ ⟨.bl false, H, I, rfl, q⟩
theorem o_eq (hu : X.A.units + 64 < cLine) : OpR X (compareOp .Eq) (r2 X.K cl (gEq false)) := by
  refine of2 ((op_eqD hu).or (op_eqN hu)) fun x y H Q w S d e z k r1 r2 hg q => ?_
  unfold gEq at hg
  split at hg
  · rename_i h
    rw [Bool.and_eq_true] at h
    cases hg
    rw [Bool.false_xor] at q
    exact .inl ⟨_, _, k.dp 12 r1 h.1, k.dp 12 r2 h.2, okD_shaped h.1 (by decide), okD_shaped h.2 (by decide), q w _ H (Ext.refl _ _) k (.bl _)⟩
  · split at hg
    · rename_i h
      cases hg
      rw [Bool.not_false, Bool.true_and] at h
      unfold isNE at h
      split at h
      · cases r1 with
        | lst a1 b1 =>
          cases r2 with
          | lst a2 b2 =>
            cases b1 with
            | cons c1 c2 =>
              cases b2
              exact .inr ⟨_, _, _, rfl, rfl, k.sqL a1, k.sqL a2, by simp, q w _ H (Ext.refl _ _) k (.bl _)⟩
      · cases h
    · cases hg
theorem o_ne (hu : X.A.units + 64 < cLine) : OpR X (compareOp .NotEq) (r2 X.K cl (gEq true)) := by
  refine of2 (op_neD hu) fun x y H Q w S d e z k r1 r2 hg q => ?_
  unfold gEq at hg
  split at hg
  · rename_i h
    rw [Bool.and_eq_true] at h
    cases hg
    rw [Bool.true_xor] at q
    exact ⟨_, _, k.dp 12 r1 h.1, k.dp 12 r2 h.2, okD_shaped h.1 (by decide), okD_shaped h.2 (by decide), q w _ H (Ext.refl _ _) k (.bl _)⟩
  · rw [if_neg (by simp)] at hg
    cases hg
/-- the ints of a tuple -/
def ints? : List D → Option (List Int)
  | [] => some []
  | .int i :: l => (ints? l).map (i :: ·)
  | _ :: _ => none
theorem ints_ra {K : PySem.W.Frag} {w : Wd} : ∀ {l : List D} {vs : List V} {ns : List Int}, RA K w vs l → ints? l = some ns → vs = ns.map V.int
  | [], _, _, .nil, e => by cases e; rfl
  | .int i :: l, _, ns, .cons r t, e => by
    simp only [ints?, Option.map_eq_some_iff] at e
    obtain ⟨ms, e1, rfl⟩ := e
    cases r
    rw [ints_ra t e1]
    rfl
def gLt : D → D → Store → Option D
  | .int i, .int j, _ => some (.bl (decide (i < j)))
  | .tup a, .tup b, _ => match ints? a, ints? b with
    | some ns, some ms => some (.bl (HT.lexLt ns ms))
    | _, _ => none
  | _, _, _ => none
theorem o_lt (hu : X.A.units + 64 < cLine) : OpR X (compareOp .Lt) (r2 X.K cl gLt) := by
  refine of2 (op_lt.or (op_ltT (Nat.lt_of_le_of_lt (Nat.le_add_right _ _) hu))) fun x y H Q w S d e z k r1 r2 hg q => ?_
  cases d <;> cases e <;> simp only [gLt] at hg <;> try cases hg
  · cases r1; cases r2
    exact .inl ⟨_, _, rfl, rfl, q w _ H (Ext.refl _ _) k (.bl _)⟩
  · obtain ⟨a, vs, rfl, ha, ra⟩ := r1.tup_inv
    obtain ⟨b, us, rfl, hb, rb⟩ := r2.tup_inv
    split at hg
    · rename_i ns ms e1 e2
      cases hg
      have h1 := ints_ra ra e1
      have h2 := ints_ra rb e2
      subst h1 h2
      exact .inr ⟨a, b, ns, ms, rfl, rfl, k.sqT ha, k.sqT hb, q w _ H (Ext.refl _ _) k (.bl _)⟩
    · cases hg
def gI2 (f : Int → Int → Bool) : D → D → Store → Option D
  | .int i, .int j, _ => some (.bl (f i j))
  | _, _, _ => none
theorem oI2 {op : CmpOp} {f : Int → Int → Bool} (h : OpR X (compareOp op) (rI0 fun i j => .bl (f i j))) : OpR X (compareOp op) (r2 X.K cl (gI2 f)) := by
  refine of2 h fun x y H Q w S d e z k r1 r2 hg q => ?_
  cases d <;> cases e <;> simp only [gI2] at hg <;> try cases hg
  cases r1; cases r2
  exact ⟨_, _, rfl, rfl, q w _ H (Ext.refl _ _) k (.bl _)⟩
abbrev gLe := gI2 fun i j => decide (i ≤ j)
abbrev gGe := gI2 fun i j => decide (j ≤ i)
theorem o_le : OpR X (compareOp .LtE) (r2 X.K cl gLe) := oI2 op_le
theorem o_ge : OpR X (compareOp .GtE) (r2 X.K cl gGe) := oI2 op_ge
/-- is None, is True, is False -/
def isNonD : D → Bool
  | .non => true
  | _ => false
def gIs (neg : Bool) : D → D → Store → Option D
  | d, .non, _ => some (.bl (xor neg (isNonD d)))
  | .bl a, .bl b, _ => some (.bl (xor neg (decide (a = b))))
  | _, _, _ => none
theorem isNon_v {K : PySem.W.Frag} {w : Wd} {v : V} {d : D} (r : R K w v d) : decide (v = .non) = isNonD d := by
  cases r <;> first | rfl | (exact decide_eq_false (fun e => nomatch e))
theorem o_is : OpR X (compareOp .Is) (r2 X.K cl (gIs false)) := by
  refine of2 (op_isN.or op_isBl) fun x y H Q w S d e z k r1 r2 hg q => ?_
  cases e <;> first
    | (simp only [gIs] at hg
       cases hg
       cases r2
       rw [Bool.false_xor] at q
       exact .inl ⟨rfl, by rw [isNon_v r1]; exact q w _ H (Ext.refl _ _) k (.bl _)⟩)
    | (cases d <;> simp only [gIs] at hg <;> try cases hg
       all_goals (cases r1; cases r2
                  rw [Bool.false_xor] at q
                  exact .inr ⟨_, _, rfl, rfl, q w _ H (Ext.refl _ _) k (.bl _)⟩))
theorem o_isnot : OpR X (compareOp .IsNot) (r2 X.K cl (gIs true)) := by
  refine of2 (op_notN.or op_notBl) fun x y H Q w S d e z k r1 r2 hg q => ?_
  cases e <;> first
    | (simp only [gIs] at hg
       cases hg
       cases r2
       rw [Bool.true_xor] at q
       exact .inl ⟨rfl, by rw [isNon_v r1]; exact q w _ H (Ext.refl _ _) k (.bl _)⟩)
    | (cases d <;> simp only [gIs] at hg <;> try cases hg
       all_goals (cases r1; cases r2
                  rw [Bool.true_xor] at q
                  exact .inr ⟨_, _, rfl, rfl, q w _ H (Ext.refl _ _) k (.bl _)⟩))
end
end BW
namespace BW
open PySem L2
section
variable {X : Cx}
def rInT (K : PySem.W.Frag) (neg : Bool) : R2 := fun x y H Q => ∃ d ds, Dp K H x d ∧ Dp K H y (.tuple ds) ∧ SeqAt.shaped d = true ∧ SeqAt.shaped (.tuple ds) = true ∧ Q (.bl (xor neg (ds.any fun z => PyData.eqv z d))) H
theorem op_inT (hu : X.A.units + 65 < cLine) : OpR X (compareOp .In) (rInT X.K false) := by
  intro pins s σ H x y v u Q I rx ry h
  obtain ⟨d, ds, hd, he, sd, se, q⟩ := h
  obtain ⟨as, r1⟩ := Dp.reads I d x v hd rx
  obtain ⟨bs, r2⟩ := Dp.reads I (.tuple ds) y u he ry
  rw [Bool.false_xor] at q
  exact SeqAt.in_tuple_reads r2 r1 (SeqAt.canLay_of_shaped se) (SeqAt.canLay_of_shaped sd) (PyProof.Rows.room_in_shaped sd hu) ⟨.bl _, H, I, rfl, q⟩
theorem op_notInT (hu : X.A.units + 65 < cLine) : OpR X (compareOp .NotIn) (rInT X.K true) := by
  intro pins s σ H x y v u Q I rx ry h
  obtain ⟨d, ds, hd, he, sd, se, q⟩ := h
  obtain ⟨as, r1⟩ := Dp.reads I d x v hd rx
  obtain ⟨bs, r2⟩ := Dp.reads I (.tuple ds) y u he ry
  rw [Bool.true_xor] at q
  exact SeqAt.notIn_tuple_reads r2 r1 (SeqAt.canLay_of_shaped se) (SeqAt.canLay_of_shaped sd) (PyProof.Rows.room_in_shaped sd hu) ⟨.bl _, H, I, rfl, q⟩
end
theorem any_toPys (d : D) : ∀ l : List D, (toPys l).any (fun z => PyData.eqv z (toPy d)) = l.any fun z => deq z d
  | [] => rfl
  | e :: l => by simp only [toPys, List.any_cons, any_toPys d l]; rfl
section
variable {X : Cx} {cl : Str → Addr} {W : WX}
def gIn (neg : Bool) : D → D → Store → Option D
  | d, .lst l, _ => if okD 12 d && okD 12 (.lst l) then some (.bl (xor neg (l.any fun z => deq z d))) else none
  | d, .tup l, _ => if okD 12 d && okD 12 (.tup l) then some (.bl (xor neg (l.any fun z => deq z d))) else none
  | .str a, .str b, _ => match a.cps.toList with
    | [c] => some (.bl (xor neg (decide (c ∈ b.cps.toList))))
    | _ => none
  | _, _, _ => none
theorem str_one {a : Str} {c : Nat} (h : a.cps.toList = [c]) : a = ⟨#[c]⟩ := by
  obtain ⟨⟨l⟩⟩ := a
  simp only at h
  subst h
  rfl
theorem o_in (hu : X.A.units + 65 < cLine) : OpR X (compareOp .In) (r2 X.K cl (gIn false)) := by
  refine of2 ((op_inD hu).or ((op_inT hu).or op_in_sign)) fun x y H Q w S d e z k r1 r2 hg q => ?_
  cases e <;> try (cases d <;> simp only [gIn] at hg <;> cases hg)
  · cases d <;> simp only [gIn] at hg <;> try cases hg
    cases r1; cases r2
    split at hg
    · rename_i a b c hc
      cases hg
      rw [Bool.false_xor] at q
      exact .inr (.inr ⟨c, _, by rw [str_one hc], rfl, q w _ H (Ext.refl _ _) k (.bl _)⟩)
    · cases hg
  · rename_i l
    have hg : (if okD 12 d && okD 12 (.tup l) then some (D.bl (xor false (l.any fun z => deq z d))) else none) = some z := by cases d <;> exact hg
    split at hg
    · rename_i h
      rw [Bool.and_eq_true] at h
      cases hg
      refine .inr (.inl ⟨_, toPys l, k.dp 12 r1 h.1, k.dp 12 r2 h.2, okD_shaped h.1 (by decide), okD_shaped (d := .tup l) h.2 (by decide), ?_⟩)
      rw [any_toPys]
      exact q w _ H (Ext.refl _ _) k (.bl _)
    · cases hg
  · rename_i l
    have hg : (if okD 12 d && okD 12 (.lst l) then some (D.bl (xor false (l.any fun z => deq z d))) else none) = some z := by cases d <;> exact hg
    split at hg
    · rename_i h
      rw [Bool.and_eq_true] at h
      cases hg
      rw [Bool.false_xor] at q
      refine .inl ⟨_, toPys l, k.dp 12 r1 h.1, k.dp 12 r2 h.2, okD_shaped h.1 (by decide), okD_shaped (d := .lst l) h.2 (by decide), ?_⟩
      rw [any_toPys]
      exact q w _ H (Ext.refl _ _) k (.bl _)
    · cases hg
theorem o_notin (hu : X.A.units + 65 < cLine) : OpR X (compareOp .NotIn) (r2 X.K cl (gIn true)) := by
  refine of2 ((op_notInD hu).or ((op_notInT hu).or op_notIn_sign)) fun x y H Q w S d e z k r1 r2 hg q => ?_
  cases e <;> try (cases d <;> simp only [gIn] at hg <;> cases hg)
  · cases d <;> simp only [gIn] at hg <;> try cases hg
    cases r1; cases r2
    split at hg
    · rename_i a b c hc
      cases hg
      rw [Bool.true_xor] at q
      exact .inr (.inr ⟨c, _, by rw [str_one hc], rfl, q w _ H (Ext.refl _ _) k (.bl _)⟩)
    · cases hg
  · rename_i l
    have hg : (if okD 12 d && okD 12 (.tup l) then some (D.bl (xor true (l.any fun z => deq z d))) else none) = some z := by cases d <;> exact hg
    split at hg
    · rename_i h
      rw [Bool.and_eq_true] at h
      cases hg
      refine .inr (.inl ⟨_, toPys l, k.dp 12 r1 h.1, k.dp 12 r2 h.2, okD_shaped h.1 (by decide), okD_shaped (d := .tup l) h.2 (by decide), ?_⟩)
      rw [any_toPys]
      exact q w _ H (Ext.refl _ _) k (.bl _)
    · cases hg
  · rename_i l
    have hg : (if okD 12 d && okD 12 (.lst l) then some (D.bl (xor true (l.any fun z => deq z d))) else none) = some z := by cases d <;> exact hg
    split at hg
    · rename_i h
      rw [Bool.and_eq_true] at h
      cases hg
      rw [Bool.true_xor] at q
      refine .inl ⟨_, toPys l, k.dp 12 r1 h.1, k.dp 12 r2 h.2, okD_shaped h.1 (by decide), okD_shaped (d := .lst l) h.2 (by decide), ?_⟩
      rw [any_toPys]
      exact q w _ H (Ext.refl _ _) k (.bl _)
    · cases hg
def fChain (g g' : D → D → Store → Option D) (fa fb fc : Env → Store → Res D) : Env → Store → Res D := fun ρ S =>
  (fa ρ S).bind fun a S1 => (fb ρ S1).bind fun b S2 => match g a b S2 with
    | some (.bl true) => (fc ρ S2).bind fun c S3 => Res.of S3 (g' b c S3)
    | some (.bl false) => .ok (.bl false) S2
    | _ => .bad
theorem de_chain {op op' : CmpOp} {a b c : Expr} {pos : Pos} {g g' : D → D → Store → Option D} {fa fb fc : Env → Store → Res D} (ho : OpR X (compareOp op) (r2 X.K cl g)) (ho' : OpR X (compareOp op') (r2 X.K cl g'))
    (ha : DE X cl W a fa) (hb : DE X cl W b fb) (hc : DE X cl W c fc) (hm : lastMarks [op, op'] [b, c] = false := by with_unfolding_all rfl) : DE X cl W (.Compare a [op, op'] [b, c] pos) (fChain g g' fa fb fc) := by
  refine PE.imp (pe_chain ho ho' ha hb hc hm) fun σ H Q ⟨w, ρ, S, o, n, p⟩ => ?_
  refine tG.at o n (Post.bind p fun a S1 w1 x H1 e1 o1 r1 p1 => tG.at o1 (n.mono e1) (Post.bind p1 fun b S2 w2 y H2 e2 o2 r2 p2 => ?_))
  have n2 := (n.mono e1).mono e2
  split at p2
  · rename_i hg
    refine ⟨w2, S2, a, b, _, o2, r1.mono e2.le, r2, hg, fun w3 v H3 e3 o3 r3 => ⟨true, r3.bl_inv, ?_⟩⟩
    rw [if_pos rfl]
    refine tG.at o3 (n2.mono e3) (Post.bind (Post.mono e3 p2) fun c S4 w4 z H4 e4 o4 r4 p4 => ?_)
    cases hg' : g' b c S4 with
    | none => rw [hg'] at p4; exact p4.elim
    | some q =>
      rw [hg'] at p4
      exact ⟨w4, S4, b, c, q, o4, (r2.mono e3.le).mono e4.le, r4, hg', fun w' v H' e' o' r' => p4.okT e' o' r'⟩
  · rename_i hg
    refine ⟨w2, S2, a, b, _, o2, r1.mono e2.le, r2, hg, fun w3 v H3 e3 o3 r3 => ⟨false, r3.bl_inv, ?_⟩⟩
    rw [if_neg Bool.false_ne_true]
    exact p2.okT e3 o3 (.bl false)
  · exact p2.elim
def fB (f : Env → Store → Res D) : Env → Store → Res Bool := fun ρ S => (f ρ S).bind fun d S1 => match d with
  | .bl b => .ok b S1
  | _ => .bad
theorem t_test {f : Env → Store → Res D} {σ : L2.St} {H : Hp} {Q : Bool → Hp → Prop} (h : tG X.K cl W RB (fB f) σ H Q) : tG X.K cl W (R X.K) f σ H fun x H' => ∃ k, x = .bl k ∧ Q k H' := by
  obtain ⟨w, ρ, S, o, n, p⟩ := h
  refine tG.at o n (Post.bind p fun d S1 w1 x H1 e1 o1 r1 p1 => ?_)
  split at p1
  · rename_i b
    exact ⟨b, r1.bl_inv, p1.here o1 rfl⟩
  · exact p1.elim
theorem dt_cmp {op : CmpOp} {a b : Expr} {pos : Pos} {g : D → D → Store → Option D} {fa fb : Env → Store → Res D} (ho : OpR X (compareOp op) (r2 X.K cl g)) (ha : DE X cl W a fa) (hb : DE X cl W b fb) (hm : behindInMarks op b = false) : DT X cl W (.Compare a [op] [b] pos) (fB (f2 g fa fb)) := by
  refine PT.imp (pt_cmpR ho ha hb hm) fun σ H Q h => t2_of ?_
  have := t_test h
  exact this
theorem dt_val {e : Expr} {f : Env → Store → Res D} (h : DE X cl W e f) (he : ∀ whole, isTrue e X.env whole = (do let v ← whole; standAt e.pos; holding [v] (truthy v)) := by intro _; rfl) : DT X cl W e (fB f) :=
  PT.imp (pt_val h he) fun σ H Q h => t_test h
theorem dt_chain {op op' : CmpOp} {a b c : Expr} {pos : Pos} {g g' : D → D → Store → Option D} {fa fb fc : Env → Store → Res D} (ho : OpR X (compareOp op) (r2 X.K cl g)) (ho' : OpR X (compareOp op') (r2 X.K cl g'))
    (ha : DE X cl W a fa) (hb : DE X cl W b fb) (hc : DE X cl W c fc) (hm : lastMarks [op, op'] [b, c] = false := by with_unfolding_all rfl) : DT X cl W (.Compare a [op, op'] [b, c] pos) (fB (fChain g g' fa fb fc)) := by
  refine PT.imp (pt_chain ho ho' ha hb hc hm) fun σ H Q h => ?_
  obtain ⟨w, ρ, S, o, n, p⟩ := t_test h
  refine tG.at o n (Post.bind p fun a S1 w1 x H1 e1 o1 r1 p1 => tG.at o1 (n.mono e1) (Post.bind p1 fun b S2 w2 y H2 e2 o2 r2 p2 => ?_))
  have n2 := (n.mono e1).mono e2
  split at p2
  · rename_i hg
    refine ⟨w2, S2, a, b, _, o2, r1.mono e2.le, r2, hg, fun w3 v H3 e3 o3 r3 => ⟨true, r3.bl_inv, ?_⟩⟩
    rw [if_pos rfl]
    refine tG.at o3 (n2.mono e3) (Post.bind (Post.mono e3 p2) fun c S4 w4 z H4 e4 o4 r4 p4 => ?_)
    cases hg' : g' b c S4 with
    | none => rw [hg'] at p4; exact p4.elim
    | some q =>
      rw [hg'] at p4
      exact ⟨w4, S4, b, c, q, o4, (r2.mono e3.le).mono e4.le, r4, hg', fun w' v H' e' o' r' => p4.okT e' o' r'⟩
  · rename_i hg
    refine ⟨w2, S2, a, b, _, o2, r1.mono e2.le, r2, hg, fun w3 v H3 e3 o3 r3 => ⟨false, r3.bl_inv, ?_⟩⟩
    rw [if_neg Bool.false_ne_true]
    exact p2.okT e3 o3 (.bl false)
  · exact p2.elim
def fAnd (f g : Env → Store → Res Bool) : Env → Store → Res Bool := fun ρ S => (f ρ S).bind fun b S1 => if b = true then g ρ S1 else .ok false S1
def fOr (f g : Env → Store → Res Bool) : Env → Store → Res Bool := fun ρ S => (f ρ S).bind fun b S1 => if b = true then .ok true S1 else g ρ S1
def fNot (f : Env → Store → Res Bool) : Env → Store → Res Bool := fun ρ S => (f ρ S).bind fun b S1 => .ok (!b) S1
variable {a b : Expr} {rest : List Expr} {pos : Pos} {f g : Env → Store → Res Bool}
theorem dw_or1 (h : DT X cl W a f) : DW X cl W (.BoolOp .Or [a] pos) f := pw_or1 h
theorem dw_or (h : DT X cl W a f) (t : DW X cl W (.BoolOp .Or (b :: rest) pos) g) : DW X cl W (.BoolOp .Or (a :: b :: rest) pos) (fOr f g) := by
  refine PW.imp (pw_or h t) fun σ H Q ⟨w, ρ, S, o, n, p⟩ => tG.at o n (Post.bind p fun c S1 w1 x H1 e1 o1 r1 p1 => ?_)
  cases (show x = c from r1)
  cases c with
  | true => rw [if_pos rfl] at p1 ⊢; exact p1.here o1 rfl
  | false => rw [if_neg Bool.false_ne_true] at p1 ⊢; exact tG.at o1 (n.mono e1) p1
theorem DW.pt {e : Expr} (h : DW X cl W e f) : DT X cl W e f := PW.pt h
theorem dt_not (h : DT X cl W a f) : DT X cl W (.UnaryOp .Not a pos) (fNot f) := by
  refine PT.imp (pt_not h) fun σ H Q ⟨w, ρ, S, o, n, p⟩ => tG.at o n (Post.bind p fun c S1 w1 x H1 e1 o1 r1 p1 => ?_)
  cases (show x = c from r1)
  exact p1.here o1 rfl
variable {fa fb : Env → Store → Res D}
def vAnd (f g : Env → Store → Res D) : Env → Store → Res D := fun ρ S => (f ρ S).bind fun d S1 => match d with
  | .bl true => g ρ S1
  | .bl false => .ok (.bl false) S1
  | _ => .bad
def vOr (f g : Env → Store → Res D) : Env → Store → Res D := fun ρ S => (f ρ S).bind fun d S1 => match d with
  | .bl true => .ok (.bl true) S1
  | .bl false => g ρ S1
  | _ => .bad
def vNot (f : Env → Store → Res D) : Env → Store → Res D := fun ρ S => (f ρ S).bind fun d S1 => match d with
  | .bl b => .ok (.bl (!b)) S1
  | _ => .bad
theorem de_one {op} (h : DE X cl W a fa) : DE X cl W (.BoolOp op [a] pos) fa := pe_one h
theorem de_and (h : DE X cl W a fa) (t : DE X cl W (.BoolOp .And (b :: rest) pos) fb) : DE X cl W (.BoolOp .And (a :: b :: rest) pos) (vAnd fa fb) := by
  refine PE.imp (pe_and h t) fun σ H Q ⟨w, ρ, S, o, n, p⟩ => tG.at o n (Post.bind p fun c S1 w1 x H1 e1 o1 r1 p1 => ?_)
  split at p1
  · refine ⟨true, r1.bl_inv, ?_⟩
    rw [if_pos rfl]
    exact tG.at o1 (n.mono e1) p1
  · refine ⟨false, r1.bl_inv, ?_⟩
    rw [if_neg Bool.false_ne_true]
    exact p1.here o1 (.bl false)
  · exact p1.elim
def fNeg (f : Env → Store → Res D) : Env → Store → Res D := fun ρ S => (f ρ S).bind fun d S1 => match d with
  | .int i => .ok (.int (-i)) S1
  | _ => .bad
theorem de_neg (h : DE X cl W a fa) : DE X cl W (.UnaryOp .USub a pos) (fNeg fa) := by
  refine PE.imp (pe_un un_neg h) fun σ H Q ⟨w, ρ, S, o, n, p⟩ => tG.at o n (Post.bind p fun c S1 w1 x H1 e1 o1 r1 p1 => ?_)
  split at p1
  · rename_i i
    exact ⟨i, r1.int_inv, p1.here o1 (.int _)⟩
  · exact p1.elim
def fIf (t : Env → Store → Res Bool) (f g : Env → Store → Res D) : Env → Store → Res D := fun ρ S => (t ρ S).bind fun b S1 => if b = true then f ρ S1 else g ρ S1
theorem de_ifExp {c : Expr} (hc : DT X cl W c f) (ha : DE X cl W a fa) (hb : DE X cl W b fb) : DE X cl W (.IfExp c a b pos) (fIf f fa fb) := by
  refine PE.imp (pe_ifExp hc ha hb) fun σ H Q ⟨w, ρ, S, o, n, p⟩ => tG.at o n (Post.bind p fun c S1 w1 x H1 e1 o1 r1 p1 => ?_)
  cases (show x = c from r1)
  cases c with
  | true => rw [if_pos rfl] at p1 ⊢; exact tG.at o1 (n.mono e1) p1
  | false => rw [if_neg Bool.false_ne_true] at p1 ⊢; exact tG.at o1 (n.mono e1) p1
end
end BW
namespace BW
open PySem L2
def keyD : D → Option Key
  | .int i => some (.inl i)
  | .str x => some (.inr x)
  | _ => none
def kD : Key → D
  | .inl i => .int i
  | .inr x => .str x
theorem kD_R {K : PySem.W.Frag} {w : Wd} (k : Key) : R K w (kV k) (kD k) := by
  cases k with
  | inl i => exact .int i
  | inr x => exact .str x
def valD (kvs : List (Key × D)) (k : Key) : Option D := (kvs.find? fun kv => decide (kv.1 = k)).map (·.2)
def putD (kvs : List (Key × D)) (k : Key) (v : D) : List (Key × D) :=
  if (kvs.any fun kv => decide (kv.1 = k)) = true then kvs.map fun kv => if kv.1 = k then (kv.1, v) else kv else kvs ++ [(k, v)]
section
variable {K : PySem.W.Frag} {w : Wd}
theorem keyD_v {v : V} {d : D} {k : Key} (r : R K w v d) (h : keyD d = some k) : v = kV k := by
  cases r <;> simp only [keyD] at h <;> cases h <;> rfl
theorem RK.val {k : Key} : ∀ {vs : List (Key × V)} {ds : List (Key × D)}, RK K w vs ds → (valD ds k = none ∧ valV vs k = none) ∨ ∃ v d, valD ds k = some d ∧ valV vs k = some v ∧ R K w v d
  | _, _, .nil => .inl ⟨rfl, rfl⟩
  | _, _, .cons (k := j) (v := v) (d := d) r t => by
    by_cases e : j = k
    · refine .inr ⟨v, d, ?_, ?_, r⟩
      · simp [valD, List.find?_cons, e]
      · simp [valV, List.find?_cons, e]
    · rcases RK.val (k := k) t with ⟨h1, h2⟩ | ⟨v', d', h1, h2, h3⟩
      · refine .inl ⟨?_, ?_⟩
        · simpa [valD, List.find?_cons, e] using h1
        · simpa [valV, List.find?_cons, e] using h2
      · refine .inr ⟨v', d', ?_, ?_, h3⟩
        · simpa [valD, List.find?_cons, e] using h1
        · simpa [valV, List.find?_cons, e] using h2
theorem RK.any {k : Key} : ∀ {vs : List (Key × V)} {ds : List (Key × D)}, RK K w vs ds → (vs.any fun kv => decide (kv.1 = k)) = ds.any fun kv => decide (kv.1 = k)
  | _, _, .nil => rfl
  | _, _, .cons r t => by simp only [List.any_cons, RK.any t]
theorem RK.map {k : Key} {v : V} {d : D} (r : R K w v d) : ∀ {vs : List (Key × V)} {ds : List (Key × D)}, RK K w vs ds → RK K w (vs.map fun kv => if kv.1 = k then (kv.1, v) else kv) (ds.map fun kv => if kv.1 = k then (kv.1, d) else kv)
  | _, _, .nil => .nil
  | _, _, .cons (k := j) q t => by
    simp only [List.map_cons]
    by_cases e : j = k
    · rw [if_pos e, if_pos e]; exact .cons r (RK.map r t)
    · rw [if_neg e, if_neg e]; exact .cons q (RK.map r t)
theorem RK.snoc {k : Key} {v : V} {d : D} (r : R K w v d) : ∀ {vs : List (Key × V)} {ds : List (Key × D)}, RK K w vs ds → RK K w (vs ++ [(k, v)]) (ds ++ [(k, d)])
  | _, _, .nil => .cons r .nil
  | _, _, .cons q t => .cons q (RK.snoc r t)
theorem RK.put {k : Key} {v : V} {d : D} (r : R K w v d) {vs : List (Key × V)} {ds : List (Key × D)} (t : RK K w vs ds) : RK K w (putK vs k v) (putD ds k d) := by
  unfold putK putD
  rw [t.any]
  split
  · exact RK.map r t
  · exact RK.snoc r t
theorem RK.length : ∀ {vs : List (Key × V)} {ds : List (Key × D)}, RK K w vs ds → vs.length = ds.length
  | _, _, .nil => rfl
  | _, _, .cons _ t => by simp [RK.length t]
theorem RK.keys : ∀ {vs : List (Key × V)} {ds : List (Key × D)}, RK K w vs ds → vs.map (·.1) = ds.map (·.1)
  | _, _, .nil => rfl
  | _, _, .cons _ t => by simp [RK.keys t]
end
section
variable {X : Cx} {cl : Str → Addr} {W : WX}
/-- d[k], the key there, by values -/
theorem ix_dict (hu : X.A.units + 1 < cLine) : IxR X (fun x y H Q => ∃ a v, x = .ref a ∧ DGet H a y (some v) ∧ Q v H) := by
  intro value slice pins s σ H x y v u Q I rx ry h hs
  obtain ⟨a, z, rfl, g, q⟩ := h
  cases rx
  exact PyProof.Rows.tail_any (ops := [.ref a, u]) (dict_typeIs I g) PySem.F.slot_dict_getitem.lookup (d_getItem hu I g ry fun w' s3 I3 rw' => ⟨z, H, I3, rw', q⟩) hs
def gIx : D → D → Store → Option D
  | .tup l, .int i, _ => atI l i
  | .lst l, .int i, _ => atI l i
  | .str x, .int i, _ => if x.length ≤ LIM then (atI x.cps.toList i).map fun c => .str ⟨#[c]⟩ else none
  | .scr ns, .int i, _ => (atI ns i).map .int
  | .dic kvs, d, _ => (keyD d).bind fun k => valD kvs k
  | .ref n, d, S => match S[n]? with
    | some (.lst l) => match d with
      | .int i => atI l i
      | _ => none
    | some (.dic kvs) => (keyD d).bind fun k => valD kvs k
    | some (.dicL kvs) => (keyD d).bind fun k => valD kvs k
    | _ => none
  | _, _, _ => none
theorem RA.atI {K : PySem.W.Frag} {w : Wd} {vs : List V} {l : List D} {i : Int} {d : D} (r : RA K w vs l) (h : L2.atI l i = some d) : ∃ v, L2.atI vs i = some v ∧ R K w v d := by
  unfold L2.atI at h ⊢
  rw [r.length]
  cases e : ixN l.length i with
  | none => rw [e] at h; cases h
  | some j =>
    rw [e] at h
    exact r.get h
theorem IxR.imp {r r' : R2} (h : IxR X r) (i : ∀ x y H Q, r' x y H Q → r x y H Q) : IxR X r' := by
  intro value slice pins s σ H x y v u Q I rx ry q hs
  exact h value slice pins s σ H x y v u Q I rx ry (i x y H Q q) hs
theorem atI_map {α β : Type} (f : α → β) (l : List α) (i : Int) : L2.atI (l.map f) i = (L2.atI l i).map f := by
  unfold L2.atI
  rw [List.length_map]
  cases ixN l.length i <;> simp
theorem i_ix (hu : X.A.units + 1 < cLine) : IxR X (r2 X.K cl gIx) := by
  refine IxR.imp (ix_list.or (ix_tup.or (ix_str.or (ix_dict hu)))) fun x y H Q ⟨w, S, d, e, z, k, r1, r2, hg, q⟩ => ?_
  have dk : ∀ {a : Addr} {vs : List (Key × V)} {kvs : List (Key × D)}, Rd H a (.dK vs) → RK X.K w vs kvs → ((keyD e).bind fun k => valD kvs k) = some z → ∃ b v, V.ref a = .ref b ∧ DGet H b y (some v) ∧ Q v H := by
    intro a vs kvs ha ra hz
    cases hk : keyD e with
    | none => rw [hk] at hz; cases hz
    | some kk =>
      rw [hk] at hz
      have ey := keyD_v r2 hk
      subst ey
      rcases ra.val (k := kk) with ⟨h1, _⟩ | ⟨v, d', h1, h2, h3⟩
      · have hz : valD kvs kk = some z := hz
        rw [h1] at hz; cases hz
      · have hz : valD kvs kk = some z := hz
        rw [h1] at hz; cases hz
        exact ⟨a, v, rfl, .inl ⟨vs, kk, ha, rfl, h2.symm⟩, q w v H (Ext.refl _ _) k h3⟩
  cases d with
  | tup l =>
    obtain ⟨a, vs, rfl, ha, ra⟩ := r1.tup_inv
    cases e <;> simp only [gIx] at hg <;> try cases hg
    rename_i i
    cases r2
    obtain ⟨v, hv, rv⟩ := ra.atI hg
    exact .inr (.inl ⟨a, vs, i, v, rfl, rfl, k.sqT ha, hv, q w v H (Ext.refl _ _) k rv⟩)
  | lst l =>
    obtain ⟨a, vs, rfl, ha, ra⟩ := r1.lst_inv
    cases e <;> simp only [gIx] at hg <;> try cases hg
    rename_i i
    cases r2
    obtain ⟨v, hv, rv⟩ := ra.atI hg
    exact .inl ⟨a, vs, i, v, rfl, rfl, k.sqL ha, hv, q w v H (Ext.refl _ _) k rv⟩
  | str s =>
    cases r1
    cases e <;> simp only [gIx] at hg <;> try cases hg
    rename_i i
    cases r2
    split at hg
    · rename_i hl
      cases hc : L2.atI s.cps.toList i with
      | none => rw [hc] at hg; cases hg
      | some c =>
        rw [hc] at hg
        cases hg
        exact .inr (.inr (.inl ⟨s, i, c, rfl, rfl, lim_le hl, hc, q w _ H (Ext.refl _ _) k (.str _)⟩))
    · cases hg
  | scr ns =>
    obtain ⟨a, rfl, ha⟩ := r1.scr_inv
    cases e <;> simp only [gIx] at hg <;> try cases hg
    rename_i i
    cases r2
    cases hc : L2.atI ns i with
    | none => rw [hc] at hg; cases hg
    | some c =>
      rw [hc] at hg
      cases hg
      exact .inl ⟨a, _, i, .int c, rfl, rfl, k.sub.seq ha, by rw [atI_map, hc]; rfl, q w _ H (Ext.refl _ _) k (.int _)⟩
  | dic kvs =>
    obtain ⟨a, vs, rfl, ha, ra⟩ := r1.dic_inv
    exact .inr (.inr (.inr (dk (Rd.mono k.sub ha) ra (by cases e <;> exact hg))))
  | ref n =>
    obtain ⟨rfl, hn⟩ := r1.ref_inv
    have hg : (match S[n]? with
      | some (.lst l) => match e with
        | .int i => L2.atI l i
        | _ => none
      | some (.dic kvs) => (keyD e).bind fun k => valD kvs k
      | some (.dicL kvs) => (keyD e).bind fun k => valD kvs k
      | _ => none) = some z := by cases e <;> exact hg
    split at hg
    · rename_i l hc
      obtain ⟨_, vs, ha, ra⟩ := k.cell n _ hc
      split at hg
      · rename_i i r2 dk hg0
        cases r2
        obtain ⟨v, hv, rv⟩ := ra.atI hg
        exact .inl ⟨_, vs, i, v, rfl, rfl, SqL.of ha, hv, q w v H (Ext.refl _ _) k rv⟩
      · cases hg
    · rename_i kvs hc
      obtain ⟨_, vs, ha, ra⟩ := k.cell n _ hc
      exact .inr (.inr (.inr (dk (.inl ha) ra hg)))
    · rename_i kvs hc
      obtain ⟨_, o, vs, ha, ra⟩ := k.cell n _ hc
      exact .inr (.inr (.inr (dk (.inr ⟨o, ha⟩) ra hg)))
    · cases hg
  | _ => cases e <;> simp only [gIx] at hg <;> cases hg
theorem de_ix {a b : Expr} {pos : Pos} {fa fb : Env → Store → Res D} (hu : X.A.units + 1 < cLine) (ha : DE X cl W a fa) (hb : DE X cl W b fb) (hs : PlainIx b := by intro _ _; rfl) : DE X cl W (.Subscript a b pos) (f2 gIx fa fb) :=
  PE.imp (pe_ix (i_ix hu) ha hb hs) fun _ _ _ h => t2_of h
abbrev RO : Wd → Option Int → Option Int → Prop := fun _ b c => b = c
abbrev DO (X : Cx) (cl : Str → Addr) (W : WX) (e : Option Expr) (f : Env → Store → Res (Option Int)) : Prop := PO X e (tG X.K cl W RO f)
theorem PO.imp {X : Cx} {e : Option Expr} {t t' : TO} (h : PO X e t) (i : ∀ σ H Q, t' σ H Q → t σ H Q) : PO X e t' := ⟨fun pins s σ H Q I q => h.run pins s σ H Q I (i σ H Q q)⟩
def oNone : Env → Store → Res (Option Int) := fun _ S => .ok none S
def oSome (f : Env → Store → Res D) : Env → Store → Res (Option Int) := fun ρ S => (f ρ S).bind fun d S1 => match d with
  | .int i => .ok (some i) S1
  | _ => .bad
theorem do_none : DO X cl W none oNone := PO.imp po_none fun σ H Q ⟨w, ρ, S, o, n, p⟩ => p.here o rfl
theorem do_some {e : Expr} {f : Env → Store → Res D} (h : DE X cl W e f) : DO X cl W (some e) (oSome f) := by
  refine PO.imp (po_some h) fun σ H Q ⟨w, ρ, S, o, n, p⟩ => tG.at o n (Post.bind p fun d S1 w1 x H1 e1 o1 r1 p1 => ?_)
  split at p1
  · exact ⟨_, r1.int_inv, p1.here o1 rfl⟩
  · exact p1.elim
def cutD (xs : List D) (lo hi : Option Int) : List D := (xs.drop (HT.sIx xs.length 0 lo)).take (HT.sIx xs.length xs.length hi - HT.sIx xs.length 0 lo)
theorem RA.cut {K : PySem.W.Frag} {w : Wd} {vs : List V} {l : List D} (r : RA K w vs l) (lo hi : Option Int) : RA K w (cutV vs lo hi) (cutD l lo hi) := by
  unfold cutV cutD
  rw [r.length]
  exact (r.drop _).take _
def gCut : D → Option Int → Option Int → Option D
  | .tup l, lo, hi => some (.tup (cutD l lo hi))
  | .lst l, lo, hi => some (.lst (cutD l lo hi))
  | .str x, lo, hi => if x.length ≤ LIM then some (.str (cutS x lo hi)) else none
  | _, _, _ => none
def fCut (f : Env → Store → Res D) (l h : Env → Store → Res (Option Int)) : Env → Store → Res D := fun ρ S => (f ρ S).bind fun d S1 => (l ρ S1).bind fun lo S2 => (h ρ S2).bind fun hi S3 => Res.of S3 (gCut d lo hi)
theorem cutD_all {l : List D} {lo hi : Option Int} (h : HT.sIx l.length 0 lo = 0 ∧ HT.sIx l.length l.length hi = l.length) : cutD l lo hi = l := by
  unfold cutD
  rw [h.1, h.2]
  simp
theorem de_cut {e : Expr} {lo hi : Option Expr} {p2 pos : Pos} {f : Env → Store → Res D} {l h : Env → Store → Res (Option Int)} (he : DE X cl W e f) (hl : DO X cl W lo l) (hh : DO X cl W hi h) : DE X cl W (.Subscript e (.Slice lo hi none p2) pos) (fCut f l h) := by
  refine PE.imp (pe_slice (sl_list.or (sl_tupS.or sl_str)) he hl hh) fun σ H Q ⟨w, ρ, S, o, n, p⟩ => tG.at o n (Post.bind p fun d S1 w1 x H1 e1 o1 r1 p1 => tG.at o1 (n.mono e1) (Post.bind p1 fun i S2 w2 i' H2 e2 o2 ri p2 => ?_))
  cases (show i' = i from ri)
  refine tG.at o2 ((n.mono e1).mono e2) (Post.bind p2 fun j S3 w3 j' H3 e3 o3 rj p3 => ?_)
  cases (show j' = j from rj)
  have r3 := (r1.mono e2.le).mono e3.le
  cases d <;> simp only [gCut] at p3 <;> try exact p3.elim
  · split at p3
    · rename_i hl
      cases r3
      exact .inr (.inr ⟨_, rfl, lim_le hl, p3.here o3 (.str _)⟩)
    · exact p3.elim
  · obtain ⟨a, vs, rfl, ha, ra⟩ := r3.tup_inv
    refine .inr (.inl ⟨a, vs, rfl, o3.sqT ha, fun hw => ?_, fun _ q qo hq hd => ?_⟩)
    · rw [ra.length] at hw
      rw [cutD_all hw] at p3
      exact p3.here o3 r3
    · obtain ⟨e, o', r⟩ := o3.layT hq hd (ra.cut i j)
      exact p3.okT e o' r
  · obtain ⟨a, vs, rfl, ha, ra⟩ := r3.lst_inv
    refine .inl ⟨a, vs, rfl, o3.sqL ha, fun q hq => ?_⟩
    obtain ⟨e, o', r⟩ := o3.layL hq (ra.cut i j)
    exact p3.okT e o' r
def rN (K : PySem.W.Frag) (cl : Str → Addr) (g : List D → Store → Option D) : List V → Hp → VK → Prop := fun xs H Q => ∃ w S ds z, Ok K cl w S H ∧ RA K w xs ds ∧ g ds S = some z ∧
  ∀ w' v H', Ext w H w' H' → Ok K cl w' S H' → R K w' v z → Q v H'
def fN (g : List D → Store → Option D) (fa : Env → Store → Res (List D)) : Env → Store → Res D := fun ρ S => (fa ρ S).bind fun ds S1 => Res.of S1 (g ds S1)
theorem CallR.imp {f : Value} {r r' : List V → Hp → VK → Prop} (h : CallR X f r) (i : ∀ xs H Q, r' xs H Q → r xs H Q) : CallR X f r' := by
  intro pins s σ H xs us Q I rx q
  exact h pins s σ H xs us Q I rx (i xs H Q q)
theorem ofN {f : Value} {r : List V → Hp → VK → Prop} {g : List D → Store → Option D} (h : CallR X f r)
    (i : ∀ xs H Q w S ds z, Ok X.K cl w S H → RA X.K w xs ds → g ds S = some z → (∀ w' v H', Ext w H w' H' → Ok X.K cl w' S H' → R X.K w' v z → Q v H') → r xs H Q) : CallR X f (rN X.K cl g) :=
  CallR.imp h fun xs H Q ⟨w, S, ds, z, k, ra, hg, q⟩ => i xs H Q w S ds z k ra hg q
theorem tN_of {g : List D → Store → Option D} {fa : Env → Store → Res (List D)} {σ : L2.St} {H : Hp} {Q : VK} (h : tG X.K cl W (R X.K) (fN g fa) σ H Q) : tCB (rN X.K cl g) (tG X.K cl W (RA X.K) fa) σ H Q := by
  obtain ⟨w, ρ, S, o, n, p⟩ := h
  refine tG.at o n (Post.bind p fun ds S1 w1 xs H1 e1 o1 r1 p1 => ?_)
  cases hg : g ds S1 with
  | none => rw [hg] at p1; exact p1.elim
  | some z =>
    rw [hg] at p1
    exact ⟨w1, S1, ds, z, o1, r1, hg, fun w' v H' e' o' r' => p1.okT e' o' r'⟩
theorem de_callB {x : Str} {p pos : Pos} {e : Expr} {es : List Expr} {id : String} {g : List D → Store → Option D} {fa : Env → Store → Res (List D)} (hc : CallR X (.builtin id) (rN X.K cl g)) (hg : Gl X x) (hm : X.mg x = none) (hv : bootBuiltins x = some (.builtin id)) (ha : DA X cl W (e :: es) fa)
    (hn : x ≠ "__name__" := by decide) (hdb : (x == ("__debug__" : Str)) = false := by decide) (he : starEach (e :: es) X.env = (false, eval e X.env) :: starEach es X.env := by rfl) (hpl : (backTo pos (starEach es X.env)).any (·.1) = false := by rfl) :
    DE X cl W (.Call (.Name x p) (e :: es) [] pos) (fN g fa) := PE.imp (pe_callB hc hg hm hv ha hn hdb he hpl) fun _ _ _ h => tN_of h
theorem de_callTy {x : Str} {p pos : Pos} {e : Expr} {es : List Expr} {T : String} {g : List D → Store → Option D} {fa : Env → Store → Res (List D)} (hc : CallR X (.type T) (rN X.K cl g)) (hg : Gl X x) (hm : X.mg x = none) (hv : bootBuiltins x = some (.type T)) (ha : DA X cl W (e :: es) fa)
    (hn : x ≠ "__name__" := by decide) (hdb : (x == ("__debug__" : Str)) = false := by decide) (he : starEach (e :: es) X.env = (false, eval e X.env) :: starEach es X.env := by rfl) (hpl : (backTo pos (starEach es X.env)).any (·.1) = false := by rfl) :
    DE X cl W (.Call (.Name x p) (e :: es) [] pos) (fN g fa) := PE.imp (pe_callTy hc hg hm hv ha hn hdb he hpl) fun _ _ _ h => tN_of h
def spM (K : PySem.W.Frag) (cl : Str → Addr) (np : Nat) (m : List D → Store → Res D) : Sp := fun vs H Q E => ∃ w S ds, Ok K cl w S H ∧ RA K w vs ds ∧ ds.length = np ∧ Post K cl (fun c d _ H => E c d H) [] (R K) w H (m ds S) Q
def fM (n : Nat) (m : List D → Store → Res D) (fa : Env → Store → Res (List D)) : Env → Store → Res D := fun ρ S => (fa ρ S).bind fun ds S1 => if ds.length = n then m ds S1 else .bad
/-- a def of the text, as it stands: m is what it gives -/
structure Df (P : Program) (w : World) (K : PySem.W.Frag) (mg : Str → Option Value) (base : Heap) (cl : Str → Addr) (k : Nat) (x : Str) (ps : List Str) (m : List D → Store → Res D) : Prop where
  ex : ∃ f fd, FnOk P w K mg base (L2.CX P w) k f fd ps (spM K cl ps.length m) ∧ mg x = some (.ref f) ∧ PySem.W.keepIn K (.ref f) = true ∧ Binds K fd ps []
theorem Post.w {K : PySem.W.Frag} {α β : Type} {Rl : Wd → β → α → Prop} {W W' : WX} {σ σ' : L2.St} {w : Wd} {H : Hp} {r : Res α} {Q : β → Hp → Prop} (h : Post K cl W σ Rl w H r Q) (hW : ∀ c H', W (.ref (cl c)) none σ H' → W' (.ref (cl c)) none σ' H') : Post K cl W' σ' Rl w H r Q := by
  cases r with
  | ok d S => exact h
  | err c S => exact fun w' H' e o => hW c H' (h w' H' e o)
  | bad => exact h
theorem de_call {k j n : Nat} {x : Str} {ps : List Str} {m : List D → Store → Res D} {p pos : Pos} {e : Expr} {es : List Expr} {fa : Env → Store → Res (List D)} (G : Df X.prog X.w X.K X.mg X.base cl k x ps m) (hr : Room j X.A) (hj : k ≤ j) (hg : Gl X x) (tk : Takes X W) (ha : DA X cl W (e :: es) fa)
    (hn : ps.length = n := by rfl) (hdb : (x == ("__debug__" : Str)) = false := by decide) (he : starEach (e :: es) X.env = (false, eval e X.env) :: starEach es X.env := by rfl) (hpl : (backTo pos (starEach es X.env)).any (·.1) = false := by rfl) :
    DE X cl W (.Call (.Name x p) (e :: es) [] pos) (fM n m fa) := by
  subst hn
  obtain ⟨f, fd, F, hm, hk, hb⟩ := G.ex
  refine PE.imp (pe_callSD F (hr.mono hj) hg hm hk hb .nil (fun σ => passAt tk σ) ha hdb he hpl) fun σ H Q ⟨w, ρ, S, o, n, p⟩ => ?_
  refine tG.at o n (Post.bind p fun ds S1 w1 xs H1 e1 o1 r1 p1 => ?_)
  split at p1
  · rename_i hl
    rw [List.append_nil]
    exact ⟨w1, S1, ds, o1, r1, hl, Post.w p1 fun c H' h => h⟩
  · exact p1.elim
end
end BW
namespace BW
open PySem L2
inductive Out where
  | next (ρ : Env) (S : Store) | ret (d : D) (S : Store) | brk (ρ : Env) (S : Store) | cont (ρ : Env) (S : Store) | err (c : Str) (ρ : Env) (S : Store) | bad
abbrev Stm := Env → Store → Out
structure Pt where
  w : Wd
  H : Hp
def Fresh (H0 : Hp) (σ : L2.St) (ρ : Env) : Prop := ∀ (i : Nat) (s : Slot) (a : Addr), ρ[i]? = some (some s) → s.isOwn = true → σ[i]? = some (some (.ref a)) → H0 a = none
section
variable (K : PySem.W.Frag) (cl : Str → Addr) (e : Pt) (W : WX)
/-- a frame's state -/
structure Fs (σ : L2.St) (H : Hp) (w : Wd) (ρ : Env) (S : Store) : Prop where
  ext : Ext e.w e.H w H
  ok : Ok K cl w S H
  env : EnvR K w H σ ρ
  fr : Fresh e.H σ ρ
def PostS (w : Wd) (Z : Ends) (o : Out) : Prop := match o with
  | .next ρ' S' => ∀ w' σ' H', Le w w' → Fs K cl e σ' H' w' ρ' S' → Z.nx σ' H'
  | .ret d S' => ∀ w' v H', Le w w' → Ext e.w e.H w' H' → Ok K cl w' S' H' → R K w' v d → Z.rt v H'
  | .brk ρ' S' => ∀ w' σ' H', Le w w' → Fs K cl e σ' H' w' ρ' S' → Z.bk σ' H'
  | .cont ρ' S' => ∀ w' σ' H', Le w w' → Fs K cl e σ' H' w' ρ' S' → Z.ct σ' H'
  | .err c ρ' S' => ∀ w' σ' H', Le w w' → Fs K cl e σ' H' w' ρ' S' → W (.ref (cl c)) none σ' H'
  | .bad => False
def tSt (g : Stm) : TS := fun Z σ H => ∃ w ρ S, Fs K cl e σ H w ρ S ∧ PostS K cl e W w Z (g ρ S)
end
abbrev DS (X : Cx) (cl : Str → Addr) (e : Pt) (W : WX) (st : Stmt) (g : Stm) : Prop := PS X st (tSt X.K cl e W g)
abbrev DSs (X : Cx) (cl : Str → Addr) (e : Pt) (W : WX) (st : List Stmt) (g : Stm) : Prop := PSs X st (tSt X.K cl e W g)
/-- an expression within a statement -/
def Out.of {α : Type} (r : Res α) (ρ : Env) (k : α → Store → Out) : Out := match r with
  | .ok a S => k a S
  | .err c S => .err c ρ S
  | .bad => .bad
section
variable {K : PySem.W.Frag} {cl : Str → Addr} {e : Pt} {W : WX} {Z : Ends} {σ : L2.St} {H : Hp} {w : Wd} {ρ : Env} {S : Store}
theorem Le.refl (w : Wd) : Le w w := ⟨Nat.le_refl _, fun _ _ => rfl, Same.refl _⟩
theorem Le.trans {w w1 w2 : Wd} (a : Le w w1) (b : Le w1 w2) : Le w w2 := ⟨Nat.le_trans a.n b.n, fun i hi => (b.k i (Nat.lt_of_lt_of_le hi a.n)).trans (a.k i hi), a.F.trans b.F⟩
theorem PostS.le {w' : Wd} {o : Out} (l : Le w w') (h : PostS K cl e W w Z o) : PostS K cl e W w' Z o := by
  cases o with
  | next ρ S => exact fun w2 σ2 H2 l2 f2 => h w2 σ2 H2 (l.trans l2) f2
  | ret d S => exact fun w2 v2 H2 l2 f2 => h w2 v2 H2 (l.trans l2) f2
  | brk ρ S => exact fun w2 σ2 H2 l2 f2 => h w2 σ2 H2 (l.trans l2) f2
  | cont ρ S => exact fun w2 σ2 H2 l2 f2 => h w2 σ2 H2 (l.trans l2) f2
  | err c ρ S => exact fun w2 σ2 H2 l2 f2 => h w2 σ2 H2 (l.trans l2) f2
  | bad => exact h
theorem Fs.on {w' : Wd} {H' : Hp} {S' : Store} (f : Fs K cl e σ H w ρ S) (x : Ext w H w' H') (o : Ok K cl w' S' H') : Fs K cl e σ H' w' ρ S' := ⟨f.ext.trans x, o, f.env.mono x, f.fr⟩
theorem PostS.expr {α β : Type} {Rl : Wd → β → α → Prop} {r : Res α} {k : α → Store → Out} {Q : β → Hp → Prop} (h : PostS K cl e W w Z (Out.of r ρ k)) (f : Fs K cl e σ H w ρ S)
    (hk : ∀ d S1 w1 v H1, Ext w H w1 H1 → Fs K cl e σ H1 w1 ρ S1 → Rl w1 v d → PostS K cl e W w1 Z (k d S1) → Q v H1) : Post K cl W σ Rl w H r Q := by
  cases r with
  | ok d S1 => exact fun w1 v H1 e1 o1 r1 => hk d S1 w1 v H1 e1 (f.on e1 o1) r1 (PostS.le e1.le h)
  | err c S1 => exact fun w1 H1 e1 o1 => h w1 σ H1 e1.le (f.on e1 o1)
  | bad => exact h
theorem Fs.tG {α β : Type} {Rl : Wd → β → α → Prop} {f : Env → Store → Res α} {Q : β → Hp → Prop} (x : Fs K cl e σ H w ρ S) (p : Post K cl W σ Rl w H (f ρ S) Q) : BW.tG K cl W Rl f σ H Q := BW.tG.at x.ok x.env p
/-- a slot takes a value -/
theorem Fs.set {i : Nat} {v : V} {d : D} (f : Fs K cl e σ H w ρ S) (r : R K w v d) : Fs K cl e (σ.set i (some v)) H w (ρ.set i (some (.dat d))) S := by
  refine ⟨f.ext, f.ok, ⟨by simp [f.env.len], fun j s hs => ?_, fun j l s t u hjl hs ht os ot hj hl => ?_⟩, fun j s a hs os hj => ?_⟩
  · by_cases e : j = i
    · subst e
      have hj : j < ρ.length := by
        have := (List.getElem?_eq_some_iff.mp hs).1
        simpa using this
      rw [List.getElem?_set_self hj] at hs
      cases hs
      exact ⟨v, by rw [List.getElem?_set_self (by rw [f.env.len]; exact hj)], r⟩
    · rw [List.getElem?_set_ne (Ne.symm e)] at hs ⊢
      exact f.env.slot j s hs
  · by_cases e : j = i
    · subst e
      by_cases hj : j < ρ.length
      · rw [List.getElem?_set_self hj] at hs; cases hs; cases os
      · rw [List.getElem?_eq_none (by simpa using Nat.le_of_not_lt hj)] at hs; cases hs
    · by_cases e2 : l = i
      · subst e2
        by_cases hj : l < ρ.length
        · rw [List.getElem?_set_self hj] at ht; cases ht; cases ot
        · rw [List.getElem?_eq_none (by simpa using Nat.le_of_not_lt hj)] at ht; cases ht
      · rw [List.getElem?_set_ne (Ne.symm e)] at hs hj
        rw [List.getElem?_set_ne (Ne.symm e2)] at ht hl
        exact f.env.sep j l s t u hjl hs ht os ot hj hl
  · by_cases e : j = i
    · subst e
      by_cases hj' : j < ρ.length
      · rw [List.getElem?_set_self hj'] at hs; cases hs; cases os
      · rw [List.getElem?_eq_none (by simpa using Nat.le_of_not_lt hj')] at hs; cases hs
    · rw [List.getElem?_set_ne (Ne.symm e)] at hs hj
      exact f.fr j s a hs os hj
/-- .. a new own object -/
theorem Fs.setOwn {i : Nat} {a : Addr} {s : Slot} (f : Fs K cl e σ H w ρ S) (so : s.isOwn = true) (ok : SlotOk K w H s (.ref a)) (h0 : e.H a = none) (sep : ∀ j t, ρ[j]? = some (some t) → t.isOwn = true → j ≠ i → σ[j]? ≠ some (some (.ref a))) :
    Fs K cl e (σ.set i (some (.ref a))) H w (ρ.set i (some s)) S := by
  refine ⟨f.ext, f.ok, ⟨by simp [f.env.len], fun j t hs => ?_, fun j l t t' u hjl hs ht os ot hj hl => ?_⟩, fun j t b hs os hj => ?_⟩
  · by_cases e : j = i
    · subst e
      have hj : j < ρ.length := by
        have := (List.getElem?_eq_some_iff.mp hs).1
        simpa using this
      rw [List.getElem?_set_self hj] at hs
      cases hs
      exact ⟨_, by rw [List.getElem?_set_self (by rw [f.env.len]; exact hj)], ok⟩
    · rw [List.getElem?_set_ne (Ne.symm e)] at hs ⊢
      exact f.env.slot j t hs
  · by_cases e : j = i
    · subst e
      have hl' : σ[l]? = some (some u) := by rw [List.getElem?_set_ne hjl] at hl; exact hl
      have ht' : ρ[l]? = some (some t') := by rw [List.getElem?_set_ne hjl] at ht; exact ht
      have hj2 : j < σ.length := by
        have := (List.getElem?_eq_some_iff.mp hj).1
        simpa using this
      rw [List.getElem?_set_self hj2] at hj
      cases hj
      exact sep l t' ht' ot (Ne.symm hjl) hl'
    · by_cases e2 : l = i
      · subst e2
        have hl' : σ[j]? = some (some u) := by rw [List.getElem?_set_ne (Ne.symm hjl)] at hj; exact hj
        have ht' : ρ[j]? = some (some t) := by rw [List.getElem?_set_ne (Ne.symm hjl)] at hs; exact hs
        have hj2 : l < σ.length := by
          have := (List.getElem?_eq_some_iff.mp hl).1
          simpa using this
        rw [List.getElem?_set_self hj2] at hl
        cases hl
        exact sep j t ht' os hjl hl'
      · rw [List.getElem?_set_ne (Ne.symm e)] at hs hj
        rw [List.getElem?_set_ne (Ne.symm e2)] at ht hl
        exact f.env.sep j l t t' u hjl hs ht os ot hj hl
  · by_cases e' : j = i
    · subst e'
      have hj2 : j < σ.length := by
        have := (List.getElem?_eq_some_iff.mp hj).1
        simpa using this
      rw [List.getElem?_set_self hj2] at hj
      cases hj
      exact h0
    · rw [List.getElem?_set_ne (Ne.symm e')] at hs hj
      exact f.fr j t b hs os hj
end
section
variable {X : Cx} {cl : Str → Addr} {e : Pt} {W : WX} {st : Stmt} {rest : List Stmt} {pos : Pos}
def sNil : Stm := fun ρ S => .next ρ S
def sSeq (g h : Stm) : Stm := fun ρ S => match g ρ S with
  | .next ρ1 S1 => h ρ1 S1
  | o => o
theorem dss_nil : DSs X cl e W [] sNil := PSs.imp pss_nil fun Z σ H ⟨w, ρ, S, f, p⟩ => p w σ H (Le.refl _) f
theorem dss_cons {g h : Stm} (h1 : DS X cl e W st g) (h2 : DSs X cl e W rest h) : DSs X cl e W (st :: rest) (sSeq g h) := by
  refine PSs.imp (pss_cons h1 h2) fun Z σ H ⟨w, ρ, S, f, p⟩ => ⟨w, ρ, S, f, ?_⟩
  unfold sSeq at p
  cases hg : g ρ S with
  | next ρ1 S1 =>
    rw [hg] at p
    exact fun w1 σ1 H1 l1 f1 => ⟨w1, ρ1, S1, f1, PostS.le l1 p⟩
  | ret d S1 => rw [hg] at p; exact p
  | brk ρ1 S1 => rw [hg] at p; exact p
  | cont ρ1 S1 => rw [hg] at p; exact p
  | err c ρ1 S1 => rw [hg] at p; exact p
  | bad => rw [hg] at p; exact p
theorem dss_one {g : Stm} (h1 : DS X cl e W st g) : DSs X cl e W [st] g := pss_one h1
def sExpr (f : Env → Store → Res BW.D) : Stm := fun ρ S => Out.of (f ρ S) ρ fun _ S1 => .next ρ S1
def sRet (f : Env → Store → Res BW.D) : Stm := fun ρ S => Out.of (f ρ S) ρ fun d S1 => .ret d S1
theorem ds_ret {ex : Expr} {f : Env → Store → Res BW.D} (h : DE X cl W ex f) : DS X cl e W (.Return (some ex) pos) (sRet f) :=
  PS.imp (ps_ret h) fun Z σ H ⟨w, ρ, S, fs, p⟩ => fs.tG (PostS.expr p fs fun d S1 w1 v H1 _ f1 r1 p1 => p1 w1 v H1 (Le.refl _) f1.ext f1.ok r1)
def sIf (t : Env → Store → Res Bool) (g h : Stm) : Stm := fun ρ S => Out.of (t ρ S) ρ fun b S1 => if b = true then g ρ S1 else h ρ S1
theorem ds_if {c : Expr} {a b : List Stmt} {t : Env → Store → Res Bool} {g h : Stm} (hc : DT X cl W c t) (ha : DSs X cl e W a g) (hb : DSs X cl e W b h) : DS X cl e W (.If c a b pos) (sIf t g h) := by
  refine PS.imp (ps_if hc ha hb) fun Z σ H ⟨w, ρ, S, fs, p⟩ => fs.tG (PostS.expr p fs fun d S1 w1 v H1 _ f1 r1 p1 => ?_)
  cases (show v = d from r1)
  cases d with
  | true => rw [if_pos rfl] at p1 ⊢; exact ⟨w1, ρ, S1, f1, p1⟩
  | false => rw [if_neg Bool.false_ne_true] at p1 ⊢; exact ⟨w1, ρ, S1, f1, p1⟩
def sSet (i : Nat) (f : Env → Store → Res BW.D) : Stm := fun ρ S => Out.of (f ρ S) ρ fun d S1 => .next (ρ.set i (some (.dat d))) S1
theorem ds_set {i : Nat} {x : Str} {ex : Expr} {pos' : Pos} {f : Env → Store → Res BW.D} (hN : X.N.Nodup) (hi : X.N[i]? = some x) (hx : Loc X.env.scope x) (h : DE X cl W ex f) (hs : swapsWith ex (some (.Name x pos')) pos.line X.env = pure false := by rfl)
    (hf : X.fn x = true ∨ X.env.scope.names.lookup x = some .local := by first | exact .inl rfl | exact .inr rfl | assumption) : DS X cl e W (.Assign [.Name x pos'] ex pos) (sSet i f) :=
  PS.imp (ps_set hN hi hx h hs hf) fun Z σ H ⟨w, ρ, S, fs, p⟩ => fs.tG (PostS.expr p fs fun d S1 w1 v H1 _ f1 r1 p1 => p1 w1 _ H1 (Le.refl _) (f1.set r1))
def Tgt := BW.D → Env → Option Env
abbrev Tgts := List BW.D → Env → Option Env
def tgName (i : Nat) : Tgt := fun d ρ => some (ρ.set i (some (.dat d)))
def tgCons (t : Tgt) (u : Tgts) : Tgts := fun ds ρ => match ds with
  | d :: r => (t d ρ).bind (u r)
  | _ => none
def tgTup (n : Nat) (u : Tgts) : Tgt := fun d ρ => match d with
  | .tup l => if l.length = n then u l ρ else none
  | _ => none
/-- a target keeps the state -/
def gT (b : Bool) (K : PySem.W.Frag) (cl : Str → Addr) (e : Pt) (t : Tgt) : TG := fun v σ H Q => ∃ w ρ S d ρ', Fs K cl e σ H w ρ S ∧ Rb b K w v d ∧ t d ρ = some ρ' ∧ ∀ σ', Fs K cl e σ' H w ρ' S → Q σ' H
theorem PG.imp {tg : Expr} {t t' : TG} (h : PG X tg t) (i : ∀ v σ H Q, t' v σ H Q → t v σ H Q) : PG X tg t' := ⟨fun pins s σ H v u Q I r q => h.run pins s σ H v u Q I r (i v σ H Q q)⟩
theorem PGs.imp {tg : List Expr} {t t' : TGs} (h : PGs X tg t) (i : ∀ v σ H Q, t' v σ H Q → t v σ H Q) : PGs X tg t' := ⟨fun pins s σ H v u Q I r q => h.run pins s σ H v u Q I r (i v σ H Q q)⟩
theorem dg_name {i : Nat} {x : Str} (hN : X.N.Nodup) (hi : X.N[i]? = some x) (hx : Loc X.env.scope x) (hf : X.fn x = true ∨ X.env.scope.names.lookup x = some .local := by first | exact .inl rfl | exact .inr rfl | assumption) : PG X (.Name x pos) (gT false X.K cl e (tgName i)) :=
  PG.imp (pg_name hN hi hx hf) fun v σ H Q ⟨w, ρ, S, d, ρ', f, r, ht, q⟩ => by cases ht; exact q _ (f.set r)
theorem Rb.tup {b : Bool} {K : PySem.W.Frag} {w : Wd} {v : V} {l : List BW.D} (h : Rb b K w v (.tup l)) : ∃ a vs, v = .ref a ∧ SqT K w.F a vs ∧ RA K w vs l := by
  unfold Rb Rw at h
  split at h
  · rcases h with h | ⟨a, vs, l', h1, h2, h3, h4⟩
    · exact h.tup_inv
    · cases h2; exact ⟨a, vs, h1, h3, h4⟩
  · exact h.tup_inv
/-- target = e -/
def sAsg (t : Tgt) (f : Env → Store → Res BW.D) : Stm := fun ρ S => Out.of (f ρ S) ρ fun d S1 => match t d ρ with
  | some ρ' => .next ρ' S1
  | none => .bad
def Walks (b : Bool) (K : PySem.W.Frag) (cl : Str → Addr) (J : It) (w : Wd) (ds : List BW.D) : Prop := ∀ (i : Nat) (w1 : Wd) (S1 : Store) (H1 : Hp), Le w w1 → Ok K cl w1 S1 H1 →
  (∀ d, ds[i]? = some d → J.go i H1 ∧ ∀ x H2, J.yld i H1 x H2 → ∃ w2, Ext w1 H1 w2 H2 ∧ Ok K cl w2 S1 H2 ∧ Rb b K w2 x d) ∧ (ds.length = i → J.stop i H1)
def tI (b : Bool) (K : PySem.W.Frag) (cl : Str → Addr) (W : WX) (f : Env → Store → Res (List BW.D)) : TI := fun σ H Rr => ∃ w ρ S, Ok K cl w S H ∧ EnvR K w H σ ρ ∧ match f ρ S with
  | .ok ds S' => ∀ w' H' J, Ext w H w' H' → Ok K cl w' S' H' → Walks b K cl J w' ds → Rr J H'
  | .err c S' => ∀ w' H', Ext w H w' H' → Ok K cl w' S' H' → W (.ref (cl c)) none σ H'
  | .bad => False
abbrev DI (b : Bool) (X : Cx) (cl : Str → Addr) (W : WX) (tg iter : Expr) (f : Env → Store → Res (List BW.D)) : Prop := PI X tg iter (tI b X.K cl W f)
theorem PI.imp {tg iter : Expr} {t t' : TI} (h : PI X tg iter t) (i : ∀ σ H Q, t' σ H Q → t σ H Q) : PI X tg iter t' := ⟨fun pins s σ H Q I q => h.run pins s σ H Q I (i σ H Q q)⟩
def forL (t : Tgt) (g : Stm) : List BW.D → Stm
  | [], ρ, S => .next ρ S
  | x :: xs, ρ, S => match t x ρ with
    | none => .bad
    | some ρ1 => match g ρ1 S with
      | .next ρ2 S2 => forL t g xs ρ2 S2
      | .cont ρ2 S2 => forL t g xs ρ2 S2
      | .brk ρ2 S2 => .next ρ2 S2
      | .ret d S2 => .ret d S2
      | .err c ρ2 S2 => .err c ρ2 S2
      | .bad => .bad
def sFor (fi : Env → Store → Res (List BW.D)) (t : Tgt) (g : Stm) : Stm := fun ρ S => Out.of (fi ρ S) ρ fun ds S1 => forL t g ds ρ S1
theorem ds_for {b : Bool} {tg iter : Expr} {body : List Stmt} {fi : Env → Store → Res (List BW.D)} {t : Tgt} {g : Stm} (hp : PassesOwn (model X.prog X.w) X.A X.env X.xe) (hc : X.calm = true) (hi : DI b X cl W tg iter fi) (hg : PG X tg (gT b X.K cl e t)) (hb : DSs X cl e W body g)
    (hs : ∀ x, foldedSetIterable iter X.env x = pure x := by intro _; rfl) : DS X cl e W (.For tg iter body [] pos) (sFor fi t g) := by
  refine PS.imp (ps_for hp hc hi hg hb hs) fun Z σ H ⟨w, ρ, S, fs, p⟩ => ⟨w, ρ, S, fs.ok, fs.env, ?_⟩
  unfold sFor at p
  cases hr : fi ρ S with
  | bad => rw [hr] at p; exact p
  | err c S1 => rw [hr] at p; exact fun w1 H1 e1 o1 => p w1 σ H1 e1.le (fs.on e1 o1)
  | ok ds S1 =>
    rw [hr] at p
    have p : PostS X.K cl e W w Z (forL t g ds ρ S1) := p
    intro w1 H1 J e1 o1 wk
    have f1 := fs.on e1 o1
    refine ⟨fun i m σ' H' => ∃ w' ρ' S', Le w1 w' ∧ Fs X.K cl e σ' H' w' ρ' S' ∧ m = ds.length - i ∧ i ≤ ds.length ∧ PostS X.K cl e W w' Z (forL t g (ds.drop i) ρ' S'), ⟨ds.length, w1, ρ, S1, Le.refl _, f1, rfl, Nat.zero_le _, PostS.le e1.le p⟩, ?_⟩
    rintro i m σ' H' ⟨w', ρ', S', l', f', rfl, hle, p'⟩
    obtain ⟨hgo, hstop⟩ := wk i w' S' H' l' f'.ok
    by_cases hi : i < ds.length
    · have hd : ds[i]? = some ds[i] := by simp [hi]
      rw [List.drop_eq_getElem_cons hi] at p'
      simp only [forL] at p'
      obtain ⟨go, yld⟩ := hgo _ hd
      refine .inr ⟨go, fun σ2 H2 => ∃ w2 ρ2 S2, Le w1 w2 ∧ Fs X.K cl e σ2 H2 w2 ρ2 S2 ∧ PostS X.K cl e W w2 Z (forL t g (ds.drop (i + 1)) ρ2 S2), fun σ2 H2 ⟨w2, ρ2, S2, l2, f2, p2⟩ => ⟨ds.length - (i + 1), by omega, w2, ρ2, S2, l2, f2, rfl, hi, p2⟩, fun x H2 y => ?_⟩
      obtain ⟨w2, e2, o2, r2⟩ := yld x H2 y
      have f2 := f'.on e2 o2
      have l2 := l'.trans e2.le
      have p2 := PostS.le e2.le p'
      cases ht : t ds[i] ρ' with
      | none => rw [ht] at p2; exact p2.elim
      | some ρ1 =>
        rw [ht] at p2
        refine ⟨w2, ρ', S', ds[i], ρ1, f2, r2, ht, fun σ3 f3 => ⟨w2, ρ1, S', f3, ?_⟩⟩
        simp only at p2
        cases hg : g ρ1 S' with
        | next ρ4 S4 =>
          rw [hg] at p2
          exact fun w4 σ4 H4 l4 f4 => ⟨w4, ρ4, S4, l2.trans l4, f4, PostS.le l4 p2⟩
        | cont ρ4 S4 =>
          rw [hg] at p2
          exact fun w4 σ4 H4 l4 f4 => ⟨w4, ρ4, S4, l2.trans l4, f4, PostS.le l4 p2⟩
        | brk ρ4 S4 => rw [hg] at p2; exact p2
        | ret d S4 => rw [hg] at p2; exact p2
        | err c ρ4 S4 => rw [hg] at p2; exact p2
        | bad => rw [hg] at p2; exact p2
    · exact .inl ⟨hstop (by omega), by
        rw [List.drop_eq_nil_of_le (Nat.le_of_not_lt hi)] at p'
        exact p' w' σ' H' (Le.refl _) f'⟩
end
end BW
namespace BW
open PySem L2
section
variable {K : PySem.W.Frag} {cl : Str → Addr} {W : WX} {σ : L2.St} {w w' : Wd} {S : Store} {H H' : Hp} {ρ : Env}
theorem Ext.mut {a : Addr} {o : HO} (x : Ext w H w' H') (h : H a = none) : Ext w H w' (upd H' a o) := by
  refine ⟨x.n, x.k, x.F, fun b u hb hk => ?_, fun b u hb => ?_, x.newF, x.newK, fun b q u hb => by rw [upd_ne (ne_of_none hb h)]; exact x.frz b q u hb⟩
  · rw [upd_ne (ne_of_none hb h)]; exact x.keep b u hb hk
  · rw [upd_ne (ne_of_none hb h)]; exact x.there b u hb
theorem Ok.mut {a : Addr} {o : HO} (k : Ok K cl w S H) (h : Hid w a) : Ok K cl w S (upd H a o) := by
  refine ⟨k.len, fun b u hb => ?_, fun i c hc => ?_, k.inj⟩
  · have ne : b ≠ a := by intro e; subst e; rw [h.nF] at hb; cases hb
    rw [upd_ne ne]; exact k.sub b u hb
  · obtain ⟨h1, h2⟩ := k.cell i c hc
    have hi : i < w.n := by rw [k.len]; exact (List.getElem?_eq_some_iff.mp hc).1
    exact ⟨h1, CellOk.mono ⟨Nat.le_refl _, fun _ _ => rfl, Same.refl _⟩ (fun v hv => by rw [upd_ne (h.nK i hi)]; exact hv) h2⟩
theorem Ok.hid (k : Ok K cl w S H) {a : Addr} (h : H a = none) : Hid w a := by
  refine ⟨?_, fun i hi e => ?_⟩
  · cases q : w.F a with
    | none => rfl
    | some u => rw [k.sub a u q] at h; cases h
  · have hi' : i < S.length := by rw [← k.len]; exact hi
    obtain ⟨_, h2⟩ := k.cell i S[i] (by simp [hi'])
    obtain ⟨u, hu⟩ := h2.there
    rw [e, h] at hu; cases hu
theorem Ok.freeze {a : Addr} {o : HO} (k : Ok K cl w S H) (h : Hid w a) (ha : H a = some o) : Ok K cl (w.lay a o) S H := by
  have le : Le w (w.lay a o) := ⟨Nat.le_refl _, fun _ _ => rfl, fun b u hb => by
    show upd w.F a o b = some u
    rw [upd_ne (ne_of_none hb h.nF)]; exact hb⟩
  refine ⟨k.len, fun b u hb => ?_, fun i c hc => ?_, k.inj⟩
  · have hb : upd w.F a o b = some u := hb
    by_cases e : b = a
    · subst e; rw [upd_same] at hb; cases hb; exact ha
    · rw [upd_ne e] at hb; exact k.sub b u hb
  · obtain ⟨h1, h2⟩ := k.cell i c hc
    have hi : i < w.n := by rw [k.len]; exact (List.getElem?_eq_some_iff.mp hc).1
    refine ⟨?_, CellOk.mono le (fun v hv => hv) h2⟩
    show upd w.F a o (w.k i) = none
    rw [upd_ne (h.nK i hi)]; exact h1
theorem Le.lay {a : Addr} {o : HO} (h : w.F a = none) : Le w (w.lay a o) := ⟨Nat.le_refl _, fun _ _ => rfl, fun b u hb => by
    show upd w.F a o b = some u
    rw [upd_ne (ne_of_none hb h)]; exact hb⟩
theorem Ext.freeze {a : Addr} {o : HO} (x : Ext w H w' H') (h : w'.F a = none) (ha : H a = none) : Ext w H (w'.lay a o) H' := by
  refine ⟨x.n, x.k, x.F.trans (Le.lay h).F, x.keep, x.there, fun b u hb => ?_, x.newK, x.frz⟩
  have hb : upd w'.F a o b = some u := hb
  by_cases e : b = a
  · subst e; exact .inr ha
  · rw [upd_ne e] at hb; exact x.newF b u hb
theorem EnvR.setD {i : Nat} {v : V} {d : D} (f : EnvR K w H σ ρ) (r : R K w v d) : EnvR K w H (σ.set i (some v)) (ρ.set i (some (.dat d))) := by
  refine ⟨by simp [f.len], fun j s hs => ?_, fun j l s t u hjl hs ht os ot hj hl => ?_⟩
  · by_cases e : j = i
    · subst e
      have hj : j < ρ.length := by
        have := (List.getElem?_eq_some_iff.mp hs).1
        simpa using this
      rw [List.getElem?_set_self hj] at hs
      cases hs
      exact ⟨v, by rw [List.getElem?_set_self (by rw [f.len]; exact hj)], r⟩
    · rw [List.getElem?_set_ne (Ne.symm e)] at hs ⊢
      exact f.slot j s hs
  · by_cases e : j = i
    · subst e
      by_cases hj : j < ρ.length
      · rw [List.getElem?_set_self hj] at hs; cases hs; cases os
      · rw [List.getElem?_eq_none (by simpa using Nat.le_of_not_lt hj)] at hs; cases hs
    · by_cases e2 : l = i
      · subst e2
        by_cases hj : l < ρ.length
        · rw [List.getElem?_set_self hj] at ht; cases ht; cases ot
        · rw [List.getElem?_eq_none (by simpa using Nat.le_of_not_lt hj)] at ht; cases ht
      · rw [List.getElem?_set_ne (Ne.symm e)] at hs hj
        rw [List.getElem?_set_ne (Ne.symm e2)] at ht hl
        exact f.sep j l s t u hjl hs ht os ot hj hl
theorem EnvR.setN {i : Nat} (f : EnvR K w H σ ρ) : EnvR K w H (σ.set i none) (ρ.set i none) := by
  have ne : ∀ {j : Nat} {s : Slot}, (ρ.set i none)[j]? = some (some s) → j ≠ i ∧ ρ[j]? = some (some s) := fun {j s} hs => by
    by_cases e : j = i
    · subst e
      by_cases hj : j < ρ.length
      · rw [List.getElem?_set_self hj] at hs; cases hs
      · rw [List.getElem?_eq_none (by simpa using Nat.le_of_not_lt hj)] at hs; cases hs
    · rw [List.getElem?_set_ne (Ne.symm e)] at hs; exact ⟨e, hs⟩
  refine ⟨by simp [f.len], fun j s hs => ?_, fun j l s t u hjl hs ht os ot hj hl => ?_⟩
  · obtain ⟨e, hs⟩ := ne hs
    rw [List.getElem?_set_ne (Ne.symm e)]
    exact f.slot j s hs
  · obtain ⟨e, hs⟩ := ne hs
    obtain ⟨e2, ht⟩ := ne ht
    rw [List.getElem?_set_ne (Ne.symm e)] at hj
    rw [List.getElem?_set_ne (Ne.symm e2)] at hl
    exact f.sep j l s t u hjl hs ht os ot hj hl
def wipeE (ρ : Env) : List Nat → Env
  | [] => ρ
  | v :: vs => (wipeE ρ vs).set v none
theorem EnvR.wipe (f : EnvR K w H σ ρ) : ∀ vs : List Nat, EnvR K w H (L2.wipe σ vs) (wipeE ρ vs)
  | [] => f
  | v :: vs => (EnvR.wipe f vs).setN
theorem wipe_get (σ : L2.St) : ∀ (vs : List Nat) (i : Nat), (L2.wipe σ vs)[i]? = if i ∈ vs ∧ i < σ.length then some none else σ[i]?
  | [], i => by simp [L2.wipe]
  | v :: vs, i => by
    unfold L2.wipe
    by_cases e : i = v
    · subst e
      by_cases hi : i < σ.length
      · rw [List.getElem?_set_self (by rw [wipe_length]; exact hi), if_pos ⟨by simp, hi⟩]
      · rw [if_neg (fun h => hi h.2), List.getElem?_eq_none (by rw [List.length_set, wipe_length]; exact Nat.le_of_not_lt hi), List.getElem?_eq_none (Nat.le_of_not_lt hi)]
    · rw [List.getElem?_set_ne (Ne.symm e), wipe_get σ vs i]
      simp [e]
theorem wipe_same {σ σ2 : L2.St} {vs : List Nat} (hl : σ2.length = σ.length) (h : ∀ i, i ∉ vs → σ2[i]? = (L2.wipe σ vs)[i]?) : L2.wipe σ2 vs = L2.wipe σ vs := by
  refine List.ext_getElem? fun i => ?_
  rw [wipe_get, wipe_get, hl]
  by_cases hi : i ∈ vs
  · by_cases hn : i < σ.length
    · rw [if_pos ⟨hi, hn⟩, if_pos ⟨hi, hn⟩]
    · rw [if_neg (fun h => hn h.2), if_neg (fun h => hn h.2), List.getElem?_eq_none (by omega), List.getElem?_eq_none (by omega)]
  · rw [if_neg (fun h => hi h.1), if_neg (fun h => hi h.1), h i hi, wipe_get, if_neg (fun h => hi h.1)]
end
section
variable (K : PySem.W.Frag) (cl : Str → Addr)
def PostL (W : WX) (σ : L2.St) (w : Wd) (H : Hp) (r : Res (List D)) (Q : VK) : Prop := match r with
  | .ok l S' => ∀ w' a vs H', Ext w H w' H' → Ok K cl w' S' H' → H a = none → H' a = some (.lst vs) → Hid w' a → RA K w' vs l → Q (.ref a) H'
  | .err c S' => ∀ w' H', Ext w H w' H' → Ok K cl w' S' H' → W (.ref (cl c)) none σ H'
  | .bad => False
def tL (W : WX) (f : Env → Store → Res (List D)) : TE := fun σ H Q => ∃ w ρ S, Ok K cl w S H ∧ EnvR K w H σ ρ ∧ PostL K cl W σ w H (f ρ S) Q
end
abbrev DL (X : Cx) (cl : Str → Addr) (W : WX) (e : Expr) (f : Env → Store → Res (List D)) : Prop := PE X e (tL X.K cl W f)
def fFrz (f : Env → Store → Res (List D)) : Env → Store → Res D := fun ρ S => (f ρ S).bind fun l S1 => .ok (.lst l) S1
theorem postL_frz {K : PySem.W.Frag} {cl : Str → Addr} {W : WX} {σ : L2.St} {w : Wd} {H : Hp} {r : Res (List D)} {Q : VK} (h : Post K cl W σ (R K) w H (r.bind fun l S1 => .ok (.lst l) S1) Q) : PostL K cl W σ w H r Q := by
  cases r with
  | ok l S => exact fun w' a vs H' x o ha h' hi ra => h _ _ _ (x.freeze hi.nF ha) (o.freeze hi h') (.lst upd_same (ra.mono (Le.lay hi.nF)))
  | err c S => exact h
  | bad => exact h
theorem DL.de {X : Cx} {cl : Str → Addr} {W : WX} {e : Expr} {f : Env → Store → Res (List D)} (h : DL X cl W e f) : DE X cl W e (fFrz f) :=
  PE.imp h fun σ H Q ⟨w, ρ, S, o, n, p⟩ => ⟨w, ρ, S, o, n, postL_frz p⟩
section
variable {X : Cx} {cl : Str → Addr} {W : WX} {tg iter : Expr}
theorem PI.or {t t' : TI} (h : PI X tg iter t) (h' : PI X tg iter t') : PI X tg iter (fun σ H Q => t σ H Q ∨ t' σ H Q) := ⟨fun pins s σ H Q I q => q.elim (h.run pins s σ H Q I) (h'.run pins s σ H Q I)⟩
def fItems (f : Env → Store → Res D) : Env → Store → Res (List D) := fun ρ S => (f ρ S).bind fun d S1 => match d with
  | .lst l => .ok l S1
  | .tup l => .ok l S1
  | .str x => .ok (x.cps.toList.map fun c => .str ⟨#[c]⟩) S1
  | .dic kvs => .ok (kvs.map fun kv => kD kv.1) S1
  | _ => .bad
theorem walks_list {K : PySem.W.Frag} {w : Wd} {a : Addr} {vs : List V} {l : List D} (h : w.F a = some (.lst vs)) (r : RA K w vs l) : Walks false K cl (Itl K a) w l := by
  intro i w1 S1 H1 le ok
  have sq : SqL K H1 a vs := ok.sqL (le.F _ _ h)
  refine ⟨fun d hd => ?_, fun hl => ⟨vs, sq, by rw [r.length]; exact Nat.le_of_eq hl⟩⟩
  obtain ⟨v, hv, rv⟩ := r.get hd
  refine ⟨⟨vs, v, sq, hv⟩, fun x H2 ⟨e, hx⟩ => ?_⟩
  subst e
  have := hx vs sq
  rw [hv] at this; cases this
  exact ⟨w1, Ext.refl _ _, ok, rv.mono le⟩
theorem walks_tup {K : PySem.W.Frag} {w : Wd} {a : Addr} {vs : List V} {l : List D} (h : SqT K w.F a vs) (r : RA K w vs l) : Walks false K cl (Itt K a) w l := by
  intro i w1 S1 H1 le ok
  have sq : SqT K H1 a vs := ok.sqT (SqT.mono le.F h)
  refine ⟨fun d hd => ?_, fun hl => ⟨vs, sq, by rw [r.length]; exact Nat.le_of_eq hl⟩⟩
  obtain ⟨v, hv, rv⟩ := r.get hd
  refine ⟨⟨vs, v, sq, hv⟩, fun x H2 ⟨e, hx⟩ => ?_⟩
  subst e
  have := hx vs sq
  rw [hv] at this; cases this
  exact ⟨w1, Ext.refl _ _, ok, rv.mono le⟩
theorem walks_str {K : PySem.W.Frag} {w : Wd} (x : Str) : Walks false K cl (Its x) w (x.cps.toList.map fun c => .str ⟨#[c]⟩) := by
  intro i w1 S1 H1 le ok
  refine ⟨fun d hd => ?_, fun hl => by rw [List.length_map, Array.length_toList] at hl; exact Nat.le_of_eq hl⟩
  rw [List.getElem?_map] at hd
  cases hc : x.cps.toList[i]? with
  | none => rw [hc] at hd; cases hd
  | some c =>
    rw [hc] at hd; cases hd
    have hc' : x.cps[i]? = some c := by simpa using hc
    refine ⟨(Array.getElem?_eq_some_iff.mp hc').1, fun v H2 ⟨e, c2, h2, e2⟩ => ?_⟩
    subst e e2
    rw [hc'] at h2; cases h2
    exact ⟨w1, Ext.refl _ _, ok, .str _⟩
theorem walks_keys {K : PySem.W.Frag} {w : Wd} {a : Addr} {q : Obj} {vs : List (Key × V)} {l : List (Key × D)} (h : w.F a = some (.frz q (.dK vs))) (r : RK K w vs l) : Walks false K cl (Itk a q vs) w (l.map fun kv => kD kv.1) := by
  intro i w1 S1 H1 le ok
  have hd := ok.sub _ _ (le.F _ _ h)
  refine ⟨fun d hi => ?_, fun hl => ⟨hd, by rw [r.length, ← hl]; simp⟩⟩
  rw [List.getElem?_map] at hi
  cases hv : l[i]? with
  | none => rw [hv] at hi; cases hi
  | some kv =>
    rw [hv] at hi
    cases hi
    have il : i < l.length := (List.getElem?_eq_some_iff.mp hv).1
    refine ⟨⟨hd, by rw [r.length]; exact il⟩, fun x H2 y => ?_⟩
    obtain ⟨rfl, k, v, hk, rfl⟩ := y
    refine ⟨w1, Ext.refl _ _, ok, ?_⟩
    have e1 : (vs.map (·.1))[i]? = some k := by rw [List.getElem?_map, hk]; rfl
    have e2 : (l.map (·.1))[i]? = some kv.1 := by rw [List.getElem?_map, hv]; rfl
    rw [r.keys, e2] at e1
    cases e1
    exact kD_R _
theorem di_seq {f : Env → Store → Res D} (h : DE X cl W iter f) : DI false X cl W tg iter (fItems f) := by
  refine PI.imp (PI.or (pi_list h) (PI.or (pi_tup h) (PI.or (pi_str h) (pi_keys h)))) fun σ H Q ⟨w, ρ, S, o, n, p⟩ => ?_
  unfold fItems at p
  cases hf : f ρ S with
  | bad => rw [hf] at p; exact p.elim
  | err c S1 =>
    rw [hf] at p
    refine .inl (tG.at o n ?_)
    rw [hf]
    exact p
  | ok d S1 =>
    rw [hf] at p
    simp only [Res.bind] at p
    cases d with
    | lst l =>
      refine .inl (tG.at o n ?_)
      rw [hf]
      intro w1 v H1 e1 o1 r1
      obtain ⟨a, vs, rfl, ha, ra⟩ := r1.lst_inv
      exact ⟨a, rfl, ⟨vs, o1.sqL ha⟩, p w1 H1 _ e1 o1 (walks_list ha ra)⟩
    | tup l =>
      refine .inr (.inl (tG.at o n ?_))
      rw [hf]
      intro w1 v H1 e1 o1 r1
      obtain ⟨a, vs, rfl, ha, ra⟩ := r1.tup_inv
      exact ⟨a, rfl, ⟨vs, o1.sqT ha⟩, p w1 H1 _ e1 o1 (walks_tup ha ra)⟩
    | str x =>
      refine .inr (.inr (.inl (tG.at o n ?_)))
      rw [hf]
      intro w1 v H1 e1 o1 r1
      cases r1
      exact ⟨x, rfl, p w1 H1 _ e1 o1 (walks_str x)⟩
    | dic l =>
      refine .inr (.inr (.inr (tG.at o n ?_)))
      rw [hf]
      intro w1 v H1 e1 o1 r1
      obtain ⟨a, q, vs, rfl, ha, ra⟩ := r1.dic_frz
      exact ⟨a, q, rfl, .inl ⟨vs, o1.sub _ _ ha, p w1 H1 _ e1 o1 (walks_keys ha ra)⟩⟩
    | _ => exact p.elim
/-- range -/
def rngD (lo : Int) (n : Nat) : List D := (List.range n).map fun i => .int (lo + (i : Nat))
theorem walks_rng {K : PySem.W.Frag} {w : Wd} (lo : Int) (n : Nat) : Walks false K cl (Itr lo n) w (rngD lo n) := by
  intro i w1 S1 H1 le ok
  refine ⟨fun d hd => ?_, fun hl => by unfold rngD at hl; rw [List.length_map, List.length_range] at hl; exact Nat.le_of_eq hl⟩
  unfold rngD at hd
  rw [List.getElem?_map] at hd
  by_cases hi : i < n
  · rw [List.getElem?_range hi] at hd
    cases hd
    exact ⟨hi, fun v H2 ⟨e, e2⟩ => by subst e e2; exact ⟨w1, Ext.refl _ _, ok, .int _⟩⟩
  · rw [List.getElem?_eq_none (by simpa using Nat.le_of_not_lt hi)] at hd
    cases hd
/-- a source that evaluates its arguments first -/
def fI (k : List D → Option (List D)) (fa : Env → Store → Res (List D)) : Env → Store → Res (List D) := fun ρ S => (fa ρ S).bind fun ds S1 => Res.of S1 (k ds)
theorem tI_args {fa : Env → Store → Res (List D)} {k : List D → Option (List D)} {σ : L2.St} {H : Hp} {Q : It → Hp → Prop} {Q1 : List V → Hp → Prop} {b : Bool} (h : tI b X.K cl W (fI k fa) σ H Q)
    (hk : ∀ ds l S1 w1 vs H1, Ok X.K cl w1 S1 H1 → RA X.K w1 vs ds → k ds = some l → (∀ J, Walks b X.K cl J w1 l → Q J H1) → Q1 vs H1) : tG X.K cl W (RA X.K) fa σ H Q1 := by
  obtain ⟨w, ρ, S, o, n, p⟩ := h
  refine tG.at o n ?_
  unfold fI at p
  cases hf : fa ρ S with
  | bad => rw [hf] at p; exact p
  | err c S1 => rw [hf] at p; exact p
  | ok ds S1 =>
    rw [hf] at p
    intro w1 vs H1 e1 o1 r1
    cases hkk : k ds with
    | none => simp only [Res.bind, hkk, Res.of] at p
    | some l =>
      simp only [Res.bind, hkk, Res.of] at p
      exact hk ds l S1 w1 vs H1 o1 r1 hkk fun J wk => p w1 H1 J e1 o1 wk
def kRng1 : List D → Option (List D)
  | [.int j] => if -(2 ^ 62) ≤ j ∧ j < 2 ^ 62 then some (rngD 0 j.toNat) else none
  | _ => none
theorem ra1 {K : PySem.W.Frag} {w : Wd} {vs : List V} {d : D} (r : RA K w vs [d]) : ∃ v, vs = [v] ∧ R K w v d := by
  cases r with
  | cons r t => cases t; exact ⟨_, rfl, r⟩
theorem ra2 {K : PySem.W.Frag} {w : Wd} {vs : List V} {d e : D} (r : RA K w vs [d, e]) : ∃ v u, vs = [v, u] ∧ R K w v d ∧ R K w u e := by
  cases r with
  | cons r t =>
    obtain ⟨u, rfl, r2⟩ := ra1 t
    exact ⟨_, _, rfl, r, r2⟩
theorem di_rng1 {a : Expr} {p pos : Pos} {fa : Env → Store → Res (List D)} (hg : Gl X "range") (hm : X.mg "range" = none) (ha : DA X cl W [a] fa) (hs : starEach [a] X.env = [(false, eval a X.env)] := by rfl) : DI false X cl W tg (.Call (.Name "range" p) [a] [] pos) (fI kRng1 fa) := by
  refine PI.imp (pi_range1 hg hm ha hs) fun σ H Q h => tI_args h fun ds l S1 w1 vs H1 o1 r1 hk q => ?_
  unfold kRng1 at hk
  split at hk
  · rename_i j
    obtain ⟨v, rfl, rv⟩ := ra1 r1
    cases rv
    split at hk
    · rename_i hj
      cases hk
      exact ⟨j, rfl, hj.1, hj.2, q _ (walks_rng 0 j.toNat)⟩
    · cases hk
  · cases hk
end
end BW
namespace BW
open PySem L2
abbrev W0 : WX := fun _ _ _ _ => False
def gE (b : Bool) (K : PySem.W.Frag) (cl : Str → Addr) (ks : List Nat) (t : Tgt) : TG := fun v σ H Q => ∃ w ρ S d ρ', Ok K cl w S H ∧ EnvR K w H σ ρ ∧ Rb b K w v d ∧ t d ρ = some ρ' ∧ ∀ σ', EnvR K w H σ' ρ' → σ'.length = σ.length → (∀ i, i ∉ ks → σ'[i]? = σ[i]?) → Q σ' H
section
variable {X : Cx} {cl : Str → Addr} {W : WX} {ks : List Nat} {pos : Pos}
theorem eg_name {i : Nat} {x : Str} (hk : i ∈ ks) (hN : X.N.Nodup) (hi : X.N[i]? = some x) (hx : Loc X.env.scope x) (hf : X.fn x = true ∨ X.env.scope.names.lookup x = some .local := by first | exact .inl rfl | exact .inr rfl | assumption) : PG X (.Name x pos) (gE false X.K cl ks (tgName i)) :=
  PG.imp (pg_name hN hi hx hf) fun v σ H Q ⟨w, ρ, S, d, ρ', o, n, r, ht, q⟩ => by
    cases ht
    exact q _ (n.setD r) (by simp) fun j hj => List.getElem?_set_ne (fun e : i = j => hj (e ▸ hk))
end
def noErr {α : Type} : Res α → Res α
  | .ok a S => .ok a S
  | _ => .bad
def compL (t : Tgt) (ft : Env → Store → Res Bool) (fe : Env → Store → Res D) (ρ : Env) : List D → Store → List D → Res (List D)
  | [], S, acc => .ok acc S
  | x :: xs, S, acc => match t x ρ with
    | none => .bad
    | some ρ1 => (noErr (ft ρ1 S)).bind fun b S1 => if b = true then (noErr (fe ρ1 S1)).bind fun y S2 => if acc.length < LIM then compL t ft fe ρ xs S2 (acc ++ [y]) else .bad else compL t ft fe ρ xs S1 acc
def fComp (fi : Env → Store → Res (List D)) (t : Tgt) (ft : Env → Store → Res Bool) (fe : Env → Store → Res D) (vs : List Nat) : Env → Store → Res (List D) := fun ρ S => (fi ρ S).bind fun ds S1 => compL t ft fe (wipeE ρ vs) ds S1 []
def fYes : Env → Store → Res Bool := fun _ S => .ok true S
theorem PTs.imp {X : Cx} {e : List Expr} {t t' : TT} (h : PTs X e t) (i : ∀ σ H Q, t' σ H Q → t σ H Q) : PTs X e t' := ⟨fun pins s σ H Q I q => h.run pins s σ H Q I (i σ H Q q)⟩
section
variable {X : Cx} {cl : Str → Addr} {W : WX}
theorem dts_nil : PTs X [] (tG X.K cl W RB fYes) := PTs.imp pts_nil fun σ H Q ⟨w, ρ, S, o, n, p⟩ => p.here o rfl
theorem dts_one {c : Expr} {t : Env → Store → Res Bool} (h : DT X cl W c t) : PTs X [c] (tG X.K cl W RB t) := pts_one h
/-- within a block nothing is raised -/
theorem Post.in0 {K : PySem.W.Frag} {α β : Type} {Rl : Wd → β → α → Prop} {σ σ' : L2.St} {w : Wd} {H : Hp} {r : Res α} {k : α → Store → Res (List D)} {Q : β → Hp → Prop} {QL : VK} {w0 : Wd} {H0 : Hp} (e0 : Ext w0 H0 w H) (h : PostL K cl W σ w0 H0 ((noErr r).bind k) QL)
    (hk : ∀ d S1 w1 v H1, Ext w H w1 H1 → Ok K cl w1 S1 H1 → Rl w1 v d → PostL K cl W σ w0 H0 (k d S1) QL → Q v H1) : Post K cl W0 σ' Rl w H r Q := by
  cases r with
  | ok d S => exact fun w1 v H1 e1 o1 r1 => hk d S w1 v H1 e1 o1 r1 h
  | err c S => exact h.elim
  | bad => exact h
/-- as Walks, for what stands behind (w, H) alone -/
def WalksX (b : Bool) (K : PySem.W.Frag) (cl : Str → Addr) (J : It) (w : Wd) (H : Hp) (ds : List D) : Prop := ∀ (i : Nat) (w1 : Wd) (S1 : Store) (H1 : Hp), Ext w H w1 H1 → Ok K cl w1 S1 H1 →
  (∀ d, ds[i]? = some d → J.go i H1 ∧ ∀ x H2, J.yld i H1 x H2 → ∃ w2, Ext w1 H1 w2 H2 ∧ Ok K cl w2 S1 H2 ∧ Rb b K w2 x d) ∧ (ds.length = i → J.stop i H1)
def tIX (b : Bool) (K : PySem.W.Frag) (cl : Str → Addr) (W : WX) (f : Env → Store → Res (List D)) : TI := fun σ H Rr => ∃ w ρ S, Ok K cl w S H ∧ EnvR K w H σ ρ ∧ match f ρ S with
  | .ok ds S' => ∀ w' H' J, Ext w H w' H' → Ok K cl w' S' H' → WalksX b K cl J w' H' ds → Rr J H'
  | .err c S' => ∀ w' H', Ext w H w' H' → Ok K cl w' S' H' → W (.ref (cl c)) none σ H'
  | .bad => False
abbrev DIX (b : Bool) (X : Cx) (cl : Str → Addr) (W : WX) (tg iter : Expr) (f : Env → Store → Res (List D)) : Prop := PI X tg iter (tIX b X.K cl W f)
theorem DI.x {b : Bool} {tg iter : Expr} {f : Env → Store → Res (List D)} (h : DI b X cl W tg iter f) : DIX b X cl W tg iter f := by
  refine PI.imp h fun σ H Rr ⟨w, ρ, S, o, n, p⟩ => ⟨w, ρ, S, o, n, ?_⟩
  cases hf : f ρ S with
  | bad => rw [hf] at p; exact p
  | err c S1 => rw [hf] at p; exact p
  | ok ds S1 =>
    rw [hf] at p
    exact fun w' H' J e1 o1 wk => p w' H' J e1 o1 fun i w2 S2 H2 x o2 => wk i w2 S2 H2 x.le o2
theorem tLc_of {b : Bool} {tg iter : Expr} {own : List Nat} {ks : List Nat} {fi : Env → Store → Res (List D)} {t : Tgt} {ft : Env → Store → Res Bool} {fe : Env → Store → Res D} (hks : ∀ i ∈ ks, i ∈ own) {σ : L2.St} {H : Hp} {Q : VK} (h : tL X.K cl W (fComp fi t ft fe own) σ H Q) :
    tLc (tIX b X.K cl W fi) (gE b X.K cl ks t) (tG X.K cl W0 RB ft) (tG X.K cl W0 (R X.K) fe) own σ H Q := by
  obtain ⟨w, ρ, S, o, n, p⟩ := h
  refine ⟨w, ρ, S, o, n, ?_⟩
  unfold fComp at p
  cases hf : fi ρ S with
  | bad => rw [hf] at p; exact p
  | err c S1 => rw [hf] at p; exact p
  | ok ds S1 =>
    rw [hf] at p
    have p : PostL X.K cl W σ w H (compL t ft fe (wipeE ρ own) ds S1 []) Q := p
    intro w1 H1 J e1 o1 wk Dd hDd
    have hid1 := o1.hid hDd
    refine ⟨fun i m H' => ∃ w' S' acc vs', Ext w1 H1 w' H' ∧ Ok X.K cl w' S' H' ∧ Hid w' Dd ∧ H' Dd = some (.lst vs') ∧ RA X.K w' vs' acc ∧ m = ds.length - i ∧ i ≤ ds.length ∧ PostL X.K cl W σ w H (compL t ft fe (wipeE ρ own) (ds.drop i) S' acc) Q,
      ⟨ds.length, w1, S1, [], [], (Ext.refl w1 H1).mut hDd, o1.mut hid1, hid1, upd_same, .nil, rfl, Nat.zero_le _, p⟩, ?_⟩
    rintro i m H' ⟨w', S', acc, vs', x', o', hid', hD', ra', rfl, hle, p'⟩
    obtain ⟨hgo, hstop⟩ := wk i w' S' H' x' o'
    by_cases hi : i < ds.length
    · have hd : ds[i]? = some ds[i] := by simp [hi]
      rw [List.drop_eq_getElem_cons hi] at p'
      simp only [compL] at p'
      obtain ⟨go, yld⟩ := hgo _ hd
      refine .inr ⟨go, fun H2 => ∃ w2 S2 acc2 vs2, Ext w1 H1 w2 H2 ∧ Ok X.K cl w2 S2 H2 ∧ Hid w2 Dd ∧ H2 Dd = some (.lst vs2) ∧ RA X.K w2 vs2 acc2 ∧ PostL X.K cl W σ w H (compL t ft fe (wipeE ρ own) (ds.drop (i + 1)) S2 acc2) Q,
        fun H2 ⟨w2, S2, acc2, vs2, a1, a2, a3, a4, a5, a6⟩ => ⟨ds.length - (i + 1), by omega, w2, S2, acc2, vs2, a1, a2, a3, a4, a5, rfl, hi, a6⟩, fun x H2 y => ?_⟩
      obtain ⟨w2, e2, o2, r2⟩ := yld x H2 y
      have en2 : EnvR X.K w2 H2 (wipe σ own) (wipeE ρ own) := (((n.mono e1).mono x').mono e2).wipe own
      have x2 := x'.trans e2
      cases ht : t ds[i] (wipeE ρ own) with
      | none => rw [ht] at p'; exact p'.elim
      | some ρ1 =>
        rw [ht] at p'
        refine ⟨w2, wipeE ρ own, S', ds[i], ρ1, o2, en2, r2, ht, fun σ3 n3 l3 k3 => ⟨wipe_same (l3.trans (wipe_length _ _)) fun j hj => k3 j fun z => hj (hks j z), tG.at o2 n3 ?_⟩⟩
        have p' : PostL X.K cl W σ w H ((noErr (ft ρ1 S')).bind fun b S1 => if b = true then (noErr (fe ρ1 S1)).bind fun y S2 => if acc.length < LIM then compL t ft fe (wipeE ρ own) (ds.drop (i + 1)) S2 (acc ++ [y]) else .bad else compL t ft fe (wipeE ρ own) (ds.drop (i + 1)) S1 acc) Q := p'
        refine Post.in0 (e1.trans x2) p' fun b S3 w3 b' H3 e3 o3 rb p3 => ?_
        cases (show b' = b from rb)
        have x3 := x2.trans e3
        have hid2 := hid'.mono e2 hD'
        have hD2 := e2.keep Dd _ hD' hid'.nK
        have hid3 := hid2.mono e3 hD2
        have hD3 := e3.keep Dd _ hD2 hid2.nK
        cases b with
        | false =>
          rw [if_neg Bool.false_ne_true] at p3 ⊢
          exact ⟨w3, S3, acc, vs', x3, o3, hid3, hD3, (ra'.mono e2.le).mono e3.le, p3⟩
        | true =>
          rw [if_pos rfl] at p3 ⊢
          refine tG.at o3 (n3.mono e3) (Post.in0 (e1.trans x3) p3 fun y S4 w4 yv H4 e4 o4 ry p4 => ?_)
          split at p4
          · rename_i hl
            have hid4 := hid3.mono e4 hD3
            have hD4 := e4.keep Dd _ hD3 hid3.nK
            have ra4 := ((ra'.mono e2.le).mono e3.le).mono e4.le
            exact ⟨vs', hD4, lim_lt (by rw [ra'.length]; exact hl), w4, S4, acc ++ [y], vs' ++ [yv], (x3.trans e4).mut hDd, o4.mut hid4, hid4, upd_same, ra4.append (.one ry), p4⟩
          · exact p4.elim
    · refine .inl ⟨hstop (by omega), ?_⟩
      rw [List.drop_eq_nil_of_le (Nat.le_of_not_lt hi)] at p'
      exact p' w' Dd vs' H' (e1.trans x') o' (e1.back hDd) hD' hid' ra'
theorem dl_comp {b : Bool} {elt tg iter : Expr} {ifs : List Expr} {scope : Scope} {own : List (Str × Nat)} {ks : List Nat} {pos : Pos} {fi : Env → Store → Res (List D)} {t : Tgt} {ft : Env → Store → Res Bool} {fe : Env → Store → Res D} (hc : X.calm = true) (hN : X.N.Nodup) (hi : DI b X cl W tg iter fi) (ok : BlkOk X.N X.env.scope scope own)
    (hg : ∀ (s : Shared) (H : Hp) (C : Addr) (cs : List (Str × Addr)) (fp : List Addr), PG (X.blk s H scope (compEnvC scope cs C X.env) fp) tg (gE b X.K cl (own.map (·.2)) t))
    (ht : ∀ (s : Shared) (H : Hp) (C : Addr) (cs : List (Str × Addr)) (fp : List Addr), PTs (X.blk s H scope (compEnvC scope cs C X.env) fp) ifs (tG X.K cl W0 RB ft))
    (he : ∀ (s : Shared) (H : Hp) (C : Addr) (cs : List (Str × Addr)) (fp : List Addr), PE (X.blk s H scope (compEnvC scope cs C X.env) fp) elt (tG X.K cl W0 (R X.K) fe)) (hs : ∀ x, foldedSetIterable iter X.env x = pure x := by intro _; rfl) (hks : own.map (·.2) = ks := by rfl) :
    DL X cl W (.ListComp elt [⟨tg, iter, ifs, 0⟩] scope pos) (fComp fi t ft fe ks) := by
  subst hks
  exact PE.imp (pe_lc hc hN (DI.x hi) ok hg ht he hs) fun σ H Q h => tLc_of (tg := tg) (iter := iter) (fun _ z => z) h
theorem dl_compX {b : Bool} {elt tg iter : Expr} {ifs : List Expr} {scope : Scope} {own : List (Str × Nat)} {ks : List Nat} {pos : Pos} {fi : Env → Store → Res (List D)} {t : Tgt} {ft : Env → Store → Res Bool} {fe : Env → Store → Res D} (hc : X.calm = true) (hN : X.N.Nodup) (hi : DIX b X cl W tg iter fi) (ok : BlkOk X.N X.env.scope scope own)
    (hg : ∀ (s : Shared) (H : Hp) (C : Addr) (cs : List (Str × Addr)) (fp : List Addr), PG (X.blk s H scope (compEnvC scope cs C X.env) fp) tg (gE b X.K cl (own.map (·.2)) t))
    (ht : ∀ (s : Shared) (H : Hp) (C : Addr) (cs : List (Str × Addr)) (fp : List Addr), PTs (X.blk s H scope (compEnvC scope cs C X.env) fp) ifs (tG X.K cl W0 RB ft))
    (he : ∀ (s : Shared) (H : Hp) (C : Addr) (cs : List (Str × Addr)) (fp : List Addr), PE (X.blk s H scope (compEnvC scope cs C X.env) fp) elt (tG X.K cl W0 (R X.K) fe)) (hs : ∀ x, foldedSetIterable iter X.env x = pure x := by intro _; rfl) (hks : own.map (·.2) = ks := by rfl) :
    DL X cl W (.ListComp elt [⟨tg, iter, ifs, 0⟩] scope pos) (fComp fi t ft fe ks) := by
  subst hks
  exact PE.imp (pe_lc hc hN hi ok hg ht he hs) fun σ H Q h => tLc_of (tg := tg) (iter := iter) (fun _ z => z) h
theorem ds_setLc {b : Bool} {e : Pt} {i : Nat} {y : Str} {py : Pos} {elt tg iter : Expr} {ifs : List Expr} {scope : Scope} {own : List (Str × Nat)} {ks : List Nat} {pos spos : Pos} {fi : Env → Store → Res (List D)} {t : Tgt} {ft : Env → Store → Res Bool} {fe : Env → Store → Res D} (hc : X.calm = true) (hN : X.N.Nodup) (hy : X.N[i]? = some y) (hyl : X.env.scope.names.lookup y = some .local)
    (hsw : swapsWith (.ListComp elt [⟨tg, iter, ifs, 0⟩] scope pos) (some (.Name y py)) spos.line X.env = pure true) (hi : DI b X cl W tg iter fi) (ok : BlkOk X.N X.env.scope scope own)
    (hg : ∀ (s : Shared) (H : Hp) (C : Addr) (cs : List (Str × Addr)) (fp : List Addr), PG (X.blk s H scope (compEnvC scope cs C X.env) fp) tg (gE b X.K cl (own.map (·.2)) t))
    (ht : ∀ (s : Shared) (H : Hp) (C : Addr) (cs : List (Str × Addr)) (fp : List Addr), PTs (X.blk s H scope (compEnvC scope cs C X.env) fp) ifs (tG X.K cl W0 RB ft))
    (he : ∀ (s : Shared) (H : Hp) (C : Addr) (cs : List (Str × Addr)) (fp : List Addr), PE (X.blk s H scope (compEnvC scope cs C X.env) fp) elt (tG X.K cl W0 (R X.K) fe)) (hs : ∀ x, foldedSetIterable iter X.env x = pure x := by intro _; rfl) (hks : own.map (·.2) = ks := by rfl) :
    DS X cl e W (.Assign [.Name y py] (.ListComp elt [⟨tg, iter, ifs, 0⟩] scope pos) spos) (sSet i (fFrz (fComp fi t ft fe ks))) := by
  subst hks
  exact PS.imp (ps_setLc hc hN hy hyl hsw (DI.x hi) ok hg ht he hs) fun Z σ H ⟨w, ρ, S, fs, p⟩ => tLc_of (tg := tg) (iter := iter) (fun _ z => z) ⟨w, ρ, S, fs.ok, fs.env, postL_frz (PostS.expr p fs fun d S1 w1 v H1 _ f1 r1 p1 => p1 w1 _ H1 (Le.refl _) (f1.set r1))⟩
end
section
variable {X : Cx} {cl : Str → Addr} {e : Pt} {W : WX} {pos : Pos}
def sSetOwn (i : Nat) (f : Env → Store → Res (List D)) : Stm := fun ρ S => Out.of (f ρ S) ρ fun l S1 => .next (ρ.set i (some (.own l))) S1
/-- what is own is changed -/
theorem Fs.mutOwn {K : PySem.W.Frag} {σ : L2.St} {H : Hp} {w : Wd} {ρ : Env} {S : Store} {i : Nat} {a : Addr} {s s' : Slot} {o : HO} (f : Fs K cl e σ H w ρ S) (hs : ρ[i]? = some (some s)) (so : s.isOwn = true) (hi : σ[i]? = some (some (.ref a))) (hid : Hid w a) (so' : s'.isOwn = true) (ok' : SlotOk K w (upd H a o) s' (.ref a)) :
    Fs K cl e σ (upd H a o) w (ρ.set i (some s')) S := by
  have il : i < ρ.length := (List.getElem?_eq_some_iff.mp hs).1
  have hfr : e.H a = none := f.fr i s a hs so hi
  refine ⟨f.ext.mut hfr, f.ok.mut hid, ⟨by simp [f.env.len], fun j t ht => ?_, fun j l t t' u hjl hj hl os ot hvj hvl => ?_⟩, fun j t b hj os hv => ?_⟩
  · by_cases ej : j = i
    · subst ej
      rw [List.getElem?_set_self il] at ht
      cases ht
      exact ⟨_, hi, ok'⟩
    · rw [List.getElem?_set_ne (Ne.symm ej)] at ht
      obtain ⟨v, hv, sv⟩ := f.env.slot j t ht
      refine ⟨v, hv, ?_⟩
      cases t with
      | dat d => exact sv
      | adr a => exact sv
      | own l =>
        obtain ⟨b, us, rfl, hb, rb, hb2⟩ := sv
        have ne : b ≠ a := fun z => by subst z; exact f.env.sep j i _ _ _ ej ht hs rfl so hv hi
        exact ⟨b, us, rfl, by rw [upd_ne ne]; exact hb, rb, hb2⟩
      | ownd l =>
        obtain ⟨b, us, rfl, hb, rb, hb2⟩ := sv
        have ne : b ≠ a := fun z => by subst z; exact f.env.sep j i _ _ _ ej ht hs rfl so hv hi
        exact ⟨b, us, rfl, by rw [upd_ne ne]; exact hb, rb, hb2⟩
  · have old : ∀ {m : Nat} {t : Slot}, (ρ.set i (some s'))[m]? = some (some t) → t.isOwn = true → ∃ t0, ρ[m]? = some (some t0) ∧ t0.isOwn = true := fun {m t} hm ot => by
      by_cases em : m = i
      · subst em; exact ⟨s, hs, so⟩
      · rw [List.getElem?_set_ne (Ne.symm em)] at hm; exact ⟨t, hm, ot⟩
    obtain ⟨t0, h0, o0⟩ := old hj os
    obtain ⟨t1, h1, o1⟩ := old hl ot
    exact f.env.sep j l t0 t1 u hjl h0 h1 o0 o1 hvj hvl
  · by_cases ej : j = i
    · subst ej
      rw [hi] at hv; cases hv
      exact hfr
    · rw [List.getElem?_set_ne (Ne.symm ej)] at hj
      exact f.fr j t b hj os hv
/-- an own list becomes data (no step of the program) -/
def sFreeze (i : Nat) (g : Stm) : Stm := fun ρ S => match ρ[i]? with
  | some (some (.own l)) => g (ρ.set i (some (.dat (.lst l)))) S
  | some (some (.ownd l)) => g (ρ.set i (some (.dat (.dic l)))) S
  | _ => .bad
theorem Fs.freeze {K : PySem.W.Frag} {σ : L2.St} {H : Hp} {w : Wd} {ρ : Env} {S : Store} {i : Nat} {a : Addr} {s : Slot} {o : HO} {d : D} (f : Fs K cl e σ H w ρ S) (hs : ρ[i]? = some (some s)) (so : s.isOwn = true) (hi : σ[i]? = some (some (.ref a))) (hid : Hid w a) (ha : H a = some o) (hr : R K (w.lay a o) (.ref a) d) :
    Fs K cl e σ H (w.lay a o) (ρ.set i (some (.dat d))) S := by
  have il : i < ρ.length := (List.getElem?_eq_some_iff.mp hs).1
  have hfr : e.H a = none := f.fr i s a hs so hi
  have le := Le.lay (o := o) hid.nF
  refine ⟨f.ext.freeze hid.nF hfr, f.ok.freeze hid ha, ⟨by simp [f.env.len], fun j t ht => ?_, fun j l t t' u hjl hj hl os ot hvj hvl => ?_⟩, fun j t b hj os hv => ?_⟩
  · by_cases ej : j = i
    · subst ej
      rw [List.getElem?_set_self il] at ht
      cases ht
      exact ⟨_, hi, hr⟩
    · rw [List.getElem?_set_ne (Ne.symm ej)] at ht
      obtain ⟨v, hv, sv⟩ := f.env.slot j t ht
      refine ⟨v, hv, ?_⟩
      have hidn : ∀ {b : Addr}, b ≠ a → Hid w b → Hid (w.lay a o) b := fun {b} nb hb => ⟨by show upd w.F a o b = none; rw [upd_ne nb]; exact hb.nF, hb.nK⟩
      cases t with
      | dat d => exact R.mono le sv
      | adr a => exact sv
      | own l =>
        obtain ⟨b, us, rfl, hb, rb, hb2⟩ := sv
        have ne : b ≠ a := fun z => by subst z; exact f.env.sep j i _ _ _ ej ht hs rfl so hv hi
        exact ⟨b, us, rfl, hb, rb.mono le, hidn ne hb2⟩
      | ownd l =>
        obtain ⟨b, us, rfl, hb, rb, hb2⟩ := sv
        have ne : b ≠ a := fun z => by subst z; exact f.env.sep j i _ _ _ ej ht hs rfl so hv hi
        exact ⟨b, us, rfl, hb, rb.mono le, hidn ne hb2⟩
  · have old : ∀ {m : Nat} {t : Slot}, (ρ.set i (some (.dat d)))[m]? = some (some t) → t.isOwn = true → ρ[m]? = some (some t) := fun {m t} hm ot => by
      by_cases em : m = i
      · subst em; rw [List.getElem?_set_self il] at hm; cases hm; cases ot
      · rw [List.getElem?_set_ne (Ne.symm em)] at hm; exact hm
    exact f.env.sep j l t t' u hjl (old hj os) (old hl ot) os ot hvj hvl
  · by_cases ej : j = i
    · subst ej
      rw [List.getElem?_set_self il] at hj; cases hj; cases os
    · rw [List.getElem?_set_ne (Ne.symm ej)] at hj
      exact f.fr j t b hj os hv
/-- .. with another thing in its place (a dict that is locked for good) -/
theorem Fs.freezeD {K : PySem.W.Frag} {σ : L2.St} {H : Hp} {w : Wd} {ρ : Env} {S : Store} {i : Nat} {a : Addr} {s : Slot} {o : HO} {d : D} (f : Fs K cl e σ H w ρ S) (hs : ρ[i]? = some (some s)) (so : s.isOwn = true) (hi : σ[i]? = some (some (.ref a))) (hid : Hid w a) (hr : R K (w.lay a o) (.ref a) d) :
    Fs K cl e σ (upd H a o) (w.lay a o) (ρ.set i (some (.dat d))) S := by
  have il : i < ρ.length := (List.getElem?_eq_some_iff.mp hs).1
  have hfr : e.H a = none := f.fr i s a hs so hi
  have le := Le.lay (o := o) hid.nF
  refine ⟨(f.ext.mut hfr).freeze hid.nF hfr, (f.ok.mut hid).freeze hid upd_same, ⟨by simp [f.env.len], fun j t ht => ?_, fun j l t t' u hjl hj hl os ot hvj hvl => ?_⟩, fun j t b hj os hv => ?_⟩
  · by_cases ej : j = i
    · subst ej
      rw [List.getElem?_set_self il] at ht
      cases ht
      exact ⟨_, hi, hr⟩
    · rw [List.getElem?_set_ne (Ne.symm ej)] at ht
      obtain ⟨v, hv, sv⟩ := f.env.slot j t ht
      refine ⟨v, hv, ?_⟩
      have hidn : ∀ {b : Addr}, b ≠ a → Hid w b → Hid (w.lay a o) b := fun {b} nb hb => ⟨by show upd w.F a o b = none; rw [upd_ne nb]; exact hb.nF, hb.nK⟩
      cases t with
      | dat d => exact R.mono le sv
      | adr a => exact sv
      | own l =>
        obtain ⟨b, us, rfl, hb, rb, hb2⟩ := sv
        have ne : b ≠ a := fun z => by subst z; exact f.env.sep j i _ _ _ ej ht hs rfl so hv hi
        exact ⟨b, us, rfl, by rw [upd_ne ne]; exact hb, rb.mono le, hidn ne hb2⟩
      | ownd l =>
        obtain ⟨b, us, rfl, hb, rb, hb2⟩ := sv
        have ne : b ≠ a := fun z => by subst z; exact f.env.sep j i _ _ _ ej ht hs rfl so hv hi
        exact ⟨b, us, rfl, by rw [upd_ne ne]; exact hb, rb.mono le, hidn ne hb2⟩
  · have old : ∀ {m : Nat} {t : Slot}, (ρ.set i (some (.dat d)))[m]? = some (some t) → t.isOwn = true → ρ[m]? = some (some t) := fun {m t} hm ot => by
      by_cases em : m = i
      · subst em; rw [List.getElem?_set_self il] at hm; cases hm; cases ot
      · rw [List.getElem?_set_ne (Ne.symm em)] at hm; exact hm
    exact f.env.sep j l t t' u hjl (old hj os) (old hl ot) os ot hvj hvl
  · by_cases ej : j = i
    · subst ej
      rw [List.getElem?_set_self il] at hj; cases hj; cases os
    · rw [List.getElem?_set_ne (Ne.symm ej)] at hj
      exact f.fr j t b hj os hv
/-- a thing is locked, for good -/
def tLk {α : Type} (t : α → L2.St → Hp → Prop) : α → L2.St → Hp → Prop := fun D σ H => t D σ H ∨ ∃ d u, H d = some u ∧ Mut (some u) ∧ ∀ od, t D σ (upd H d (.frz od u))
theorem PSs.lk {st : List Stmt} {t : TS} (h : PSs X st t) : PSs X st (tLk t) := ⟨fun pins s σ H D I hw => by
  rcases hw with hw | ⟨d, u, hd, mu, hw⟩
  · exact h.run pins s σ H D I hw
  · obtain ⟨od, I1⟩ := I.lock hd mu
    exact h.run pins s σ _ D I1 (hw od)⟩
theorem tSt_freeze {K : PySem.W.Frag} {Z : Ends} {σ : L2.St} {H : Hp} {g : Stm} (i : Nat) (h : tSt K cl e W (sFreeze i g) Z σ H) : tLk (tSt K cl e W g) Z σ H := by
  obtain ⟨w, ρ, S, fs, p⟩ := h
  unfold sFreeze at p
  split at p
  · rename_i l hl
    obtain ⟨v, hv, a, vs, rfl, ha, ra, hid⟩ := fs.env.slot i _ hl
    exact .inl ⟨_, _, S, fs.freeze hl rfl hv hid ha (.lst upd_same (ra.mono (Le.lay hid.nF))), PostS.le (Le.lay hid.nF) p⟩
  · rename_i l hl
    obtain ⟨v, hv, a, vs, rfl, ha, ra, hid⟩ := fs.env.slot i _ hl
    exact .inr ⟨a, _, ha, trivial, fun od => ⟨_, _, S, fs.freezeD hl rfl hv hid (.dic upd_same (ra.mono (Le.lay hid.nF))), PostS.le (Le.lay hid.nF) p⟩⟩
  · exact p.elim
theorem dss_freeze {st : List Stmt} {g : Stm} (i : Nat) (h : DSs X cl e W st g) : DSs X cl e W st (sFreeze i g) := PSs.imp (PSs.lk h) fun Z σ H q => tSt_freeze i q
end
end BW
namespace BW
open PySem PySem.Spec PyProof.Rows L2
def startE (n : Nat) (ds : List D) : Env := ds.map (fun d => some (.dat d)) ++ List.replicate (n - ds.length) none
def mOf (n : Nat) (g : Stm) : List D → Store → Res D := fun ds S => match g (startE n ds) S with
  | .next _ S' => .ok .non S'
  | .ret d S' => .ok d S'
  | .err c _ S' => .err c S'
  | _ => .bad
abbrev WOf (E : XK) : WX := fun c d _ H => E c d H
section
variable {P : Program} {w : World} {K : PySem.W.Frag} {mg : Str → Option Value} {base : Heap} {cl : Str → Addr}
theorem start_get {vs : List V} {ds : List D} {u : Wd} (r : RA K u vs ds) (N : List Str) (i : Nat) (s : Slot) (h : (startE N.length ds)[i]? = some (some s)) : ∃ v d, (L2.start N vs)[i]? = some (some v) ∧ s = .dat d ∧ R K u v d := by
  unfold startE at h
  unfold L2.start
  by_cases hi : i < ds.length
  · rw [List.getElem?_append_left (by simpa using hi), List.getElem?_map] at h
    have hd : ds[i]? = some ds[i] := by simp [hi]
    rw [hd] at h
    cases h
    obtain ⟨v, hv, rv⟩ := r.get hd
    refine ⟨v, ds[i], ?_, rfl, rv⟩
    rw [List.getElem?_append_left (by rw [List.length_map, r.length]; exact hi), List.getElem?_map, hv]
    rfl
  · rw [List.getElem?_append_right (by simpa using Nat.le_of_not_lt hi)] at h
    have := List.getElem?_eq_some_iff.mp h
    obtain ⟨h1, h2⟩ := this
    rw [List.getElem_replicate] at h2
    cases h2
def scp (ns : List (Str × NameKind)) (more : List (Str × Const)) : Scope := { kind := .function, names := ns, isGenerator := false, isCoroutine := false, more := more }
theorem Fun.fn {x qual : Str} {st : Stmt} {bd : List Stmt} {sc : Scope} {f : Addr} {fd : FuncData} {N ps : List Str} {k n : Nat} {g : Stm} (F : Fun K x qual st f fd) (hn : N.length = n) (hsc : defScope st = sc) (hbd : defBody st = bd) (Sc : FnScope N ps sc)
    (body : ∀ (cdv : Value) (A : Around) (outer : List PySem.Env) (s : Shared) (H : Hp) (E : XK) (e : Pt), Room k (A.deeper (envOfC qual sc s.heap.objs.size f cdv)) →
      DSs (cxOf (L2.CX P w) P w K mg base N qual sc f cdv A outer s H E) cl e (WOf E) bd g) : FnOk P w K mg base (L2.CX P w) (k + 1) f fd ps (spM K cl ps.length (mOf n g)) := by
  subst hsc hbd hn
  refine F.okX Sc (fun vs H Q E h => ?_) (fun cdv A outer s H vs Q E hr h => ?_)
  · obtain ⟨u, S, ds, _, r, hl, _⟩ := h
    rw [r.length, hl]
  · obtain ⟨u, S, ds, o, r, hl, p⟩ := h
    refine ⟨_, body cdv A outer s H E ⟨u, H⟩ hr, u, startE N.length ds, S, ⟨Ext.refl _ _, o, ⟨?_, fun i sl hs => ?_, fun i j sl t v _ hs _ os => ?_⟩, fun i sl a hs os => ?_⟩, ?_⟩
    · unfold L2.start startE
      simp [r.length]
    · obtain ⟨v, d, h1, rfl, rv⟩ := start_get r N i sl hs
      exact ⟨v, h1, rv⟩
    · obtain ⟨v, d, h1, rfl, rv⟩ := start_get r N i sl hs
      cases os
    · obtain ⟨v, d, h1, rfl, rv⟩ := start_get r N i sl hs
      cases os
    · unfold mOf at p
      cases hg : g (startE N.length ds) S with
      | next ρ S' => rw [hg] at p; exact fun w' σ' H' _ fs => p w' .non H' fs.ext fs.ok .non
      | ret d S' => rw [hg] at p; exact fun w' v H' _ x o' rv => p w' v H' x o' rv
      | err c ρ S' => rw [hg] at p; exact fun w' σ' H' _ fs => p w' H' fs.ext fs.ok
      | brk ρ S' => rw [hg] at p; exact p.elim
      | cont ρ S' => rw [hg] at p; exact p.elim
      | bad => rw [hg] at p; exact p.elim
end
section
variable {X : Cx} {cl : Str → Addr} {W : WX}
def gLen : List D → Store → Option D
  | [.lst l], _ => some (.int (l.length : Nat))
  | [.tup l], _ => some (.int (l.length : Nat))
  | [.str x], _ => if x.length ≤ LIM then some (.int (x.length : Nat)) else none
  | [.scr ns], _ => some (.int (ns.length : Nat))
  | [.dic kvs], _ => some (.int (kvs.length : Nat))
  | [.ref n], S => match S[n]? with
    | some (.lst l) => some (.int (l.length : Nat))
    | some (.dic l) => some (.int (l.length : Nat))
    | some (.dicL l) => some (.int (l.length : Nat))
    | _ => none
  | _, _ => none
theorem call_lenR : CallR X (.builtin "len") (fun xs H Q => ∃ a kvs, xs = [V.ref a] ∧ Rd H a (.dK kvs) ∧ Q (.int (kvs.length : Nat)) H) := by
  intro pins s σ H xs us Q I r h
  obtain ⟨a, kvs, rfl, ha, q⟩ := h
  obtain ⟨u, rfl, ru⟩ := vals1 r
  cases ru
  exact d_len I ha fun t s' I' => ⟨.int _, H, I', ⟨t, rfl⟩, q⟩
theorem c_len : CallR X (.builtin "len") (rN X.K cl gLen) := by
  refine ofN (CallR.or call_len call_lenR) fun xs H Q w S ds z k r hg q => ?_
  unfold gLen at hg
  split at hg
  · cases hg
    obtain ⟨v, rfl, rv⟩ := ra1 r
    obtain ⟨a, vs, rfl, ha, ra⟩ := rv.lst_inv
    refine .inl ⟨.ref a, vs.length, rfl, .inl ⟨vs, k.sqL ha, rfl⟩, ?_⟩
    rw [ra.length]
    exact q w _ H (Ext.refl _ _) k (.int _)
  · cases hg
    obtain ⟨v, rfl, rv⟩ := ra1 r
    obtain ⟨a, vs, rfl, ha, ra⟩ := rv.tup_inv
    refine .inl ⟨.ref a, vs.length, rfl, .inr ⟨vs, k.sqT ha, rfl⟩, ?_⟩
    rw [ra.length]
    exact q w _ H (Ext.refl _ _) k (.int _)
  · split at hg
    · rename_i hl
      cases hg
      obtain ⟨v, rfl, rv⟩ := ra1 r
      cases rv
      exact .inl ⟨_, _, rfl, ⟨lim_le hl, rfl⟩, q w _ H (Ext.refl _ _) k (.int _)⟩
    · cases hg
  · cases hg
    obtain ⟨v, rfl, rv⟩ := ra1 r
    obtain ⟨a, rfl, ha⟩ := rv.scr_inv
    rename_i ns
    refine .inl ⟨.ref a, ns.length, rfl, .inl ⟨_, k.sub.seq ha, by simp⟩, q w _ H (Ext.refl _ _) k (.int _)⟩
  · cases hg
    obtain ⟨v, rfl, rv⟩ := ra1 r
    obtain ⟨a, vs, rfl, ha, ra⟩ := rv.dic_inv
    refine .inr ⟨a, vs, rfl, Rd.mono k.sub ha, ?_⟩
    rw [ra.length]
    exact q w _ H (Ext.refl _ _) k (.int _)
  · obtain ⟨v, rfl, rv⟩ := ra1 r
    obtain ⟨rfl, hn⟩ := rv.ref_inv
    split at hg
    · rename_i l hc
      cases hg
      obtain ⟨_, vs, ha, ra⟩ := k.cell _ _ hc
      refine .inl ⟨_, vs.length, rfl, .inl ⟨vs, SqL.of ha, rfl⟩, ?_⟩
      rw [ra.length]
      exact q w _ H (Ext.refl _ _) k (.int _)
    · rename_i l hc
      cases hg
      obtain ⟨_, vs, ha, ra⟩ := k.cell _ _ hc
      refine .inr ⟨_, vs, rfl, .inl ha, ?_⟩
      rw [ra.length]
      exact q w _ H (Ext.refl _ _) k (.int _)
    · rename_i l hc
      cases hg
      obtain ⟨_, o, vs, ha, ra⟩ := k.cell _ _ hc
      refine .inr ⟨_, vs, rfl, .inr ⟨o, ha⟩, ?_⟩
      rw [ra.length]
      exact q w _ H (Ext.refl _ _) k (.int _)
    · cases hg
  · cases hg
/-- all -/
def bools? : List D → Option (List Bool)
  | [] => some []
  | .bl b :: l => (bools? l).map (b :: ·)
  | _ :: _ => none
theorem bools_ra {K : PySem.W.Frag} {w : Wd} : ∀ {l : List D} {vs : List V} {ns : List Bool}, RA K w vs l → bools? l = some ns → vs = ns.map V.bl
  | [], _, _, .nil, e => by cases e; rfl
  | .bl i :: l, _, ns, .cons r t, e => by
    simp only [bools?, Option.map_eq_some_iff] at e
    obtain ⟨ms, e1, rfl⟩ := e
    cases r
    rw [bools_ra t e1]
    rfl
def gAll : List D → Store → Option D
  | [.lst l], _ => (bools? l).map fun bs => .bl (bs.all id)
  | _, _ => none
theorem c_all (hc : X.calm = true) : CallR X (.builtin "all") (rN X.K cl gAll) := by
  refine ofN (cr_all hc) fun xs H Q w S ds z k r hg q => ?_
  unfold gAll at hg
  split at hg
  · rename_i l
    cases hb : bools? l with
    | none => rw [hb] at hg; cases hg
    | some bs =>
      rw [hb] at hg; cases hg
      obtain ⟨v, rfl, rv⟩ := ra1 r
      obtain ⟨a, vs, rfl, ha, ra⟩ := rv.lst_inv
      have e := bools_ra ra hb
      subst e
      exact ⟨a, bs, rfl, k.sqL ha, q w _ H (Ext.refl _ _) k (.bl _)⟩
  · cases hg
/-- min, max of two -/
def gMin : List D → Store → Option D
  | [.int i, .int j], _ => some (.int (if j < i then j else i))
  | _, _ => none
def gMax : List D → Store → Option D
  | [.int i, .int j], _ => some (.int (if j > i then j else i))
  | _, _ => none
theorem c_min (hc : X.calm = true) : CallR X (.builtin "min") (rN X.K cl gMin) := by
  refine ofN (call_min2 hc) fun xs H Q w S ds z k r hg q => ?_
  unfold gMin at hg
  split at hg
  · cases hg
    obtain ⟨v, u, rfl, rv, ru⟩ := ra2 r
    cases rv; cases ru
    exact ⟨_, _, rfl, q w _ H (Ext.refl _ _) k (.int _)⟩
  · cases hg
theorem c_max (hc : X.calm = true) : CallR X (.builtin "max") (rN X.K cl gMax) := by
  refine ofN (call_max2 hc) fun xs H Q w S ds z k r hg q => ?_
  unfold gMax at hg
  split at hg
  · cases hg
    obtain ⟨v, u, rfl, rv, ru⟩ := ra2 r
    cases rv; cases ru
    exact ⟨_, _, rfl, q w _ H (Ext.refl _ _) k (.int _)⟩
  · cases hg
/-- sorted of ints -/
def insI (x : Int) : List Int → List Int
  | [] => [x]
  | y :: l => if x ≤ y then x :: y :: l else y :: insI x l
def isort : List Int → List Int
  | [] => []
  | x :: l => insI x (isort l)
theorem insI_perm (x : Int) : ∀ l, (insI x l).Perm (x :: l)
  | [] => .refl _
  | y :: l => by
    unfold insI
    split
    · exact .refl _
    · exact ((insI_perm x l).cons y).trans (.swap x y l)
theorem isort_perm : ∀ l, (isort l).Perm l
  | [] => .refl _
  | x :: l => (insI_perm x (isort l)).trans ((isort_perm l).cons x)
theorem insI_le (x : Int) : ∀ l : List Int, l.Pairwise (· ≤ ·) → (insI x l).Pairwise (· ≤ ·)
  | [], _ => by simp [insI]
  | y :: l, h => by
    unfold insI
    obtain ⟨h1, h2⟩ := List.pairwise_cons.mp h
    split
    · rename_i hx
      exact List.pairwise_cons.mpr ⟨fun z hz => by
        rcases List.mem_cons.mp hz with e | e
        · rw [e]; exact hx
        · exact Int.le_trans hx (h1 z e), h⟩
    · rename_i hx
      refine List.pairwise_cons.mpr ⟨fun z hz => ?_, insI_le x l h2⟩
      rcases List.mem_cons.mp ((insI_perm x l).mem_iff.mp hz) with e | e
      · rw [e]; omega
      · exact h1 z e
theorem isort_le : ∀ l : List Int, (isort l).Pairwise (· ≤ ·)
  | [] => .nil
  | x :: l => insI_le x _ (isort_le l)
theorem perm_le_eq : ∀ {a b : List Int}, a.Perm b → a.Pairwise (· ≤ ·) → b.Pairwise (· ≤ ·) → a = b
  | [], b, p, _, _ => by rw [List.nil_perm.mp p]
  | x :: a, [], p, _, _ => by have := p.length_eq; simp at this
  | x :: a, y :: b, p, ha, hb => by
    obtain ⟨a1, a2⟩ := List.pairwise_cons.mp ha
    obtain ⟨b1, b2⟩ := List.pairwise_cons.mp hb
    have hx : x ∈ y :: b := p.mem_iff.mp List.mem_cons_self
    have hy : y ∈ x :: a := p.mem_iff.mpr List.mem_cons_self
    have e : x = y := by
      rcases List.mem_cons.mp hx with e | e
      · exact e
      · rcases List.mem_cons.mp hy with f | f
        · exact f.symm
        · have := b1 x e
          have := a1 y f
          omega
    subst e
    rw [perm_le_eq ((List.perm_cons x).mp p) a2 b2]
def gSorted : List D → Store → Option D
  | [.lst l], _ => (ints? l).map fun ns => .lst ((isort ns).map .int)
  | _, _ => none
theorem ra_ints {K : PySem.W.Frag} {w : Wd} : ∀ ns : List Int, RA K w (ns.map V.int) (ns.map D.int)
  | [] => .nil
  | n :: ns => .cons (.int n) (ra_ints ns)
theorem c_sorted : CallR X (.builtin "sorted") (rN X.K cl gSorted) := by
  refine ofN cr_sortedI fun xs H Q w S ds z k r hg q => ?_
  unfold gSorted at hg
  split at hg
  · rename_i l
    cases hb : ints? l with
    | none => rw [hb] at hg; cases hg
    | some ns =>
      rw [hb] at hg; cases hg
      obtain ⟨v, rfl, rv⟩ := ra1 r
      obtain ⟨a, vs, rfl, ha, ra⟩ := rv.lst_inv
      have e := ints_ra ra hb
      subst e
      refine ⟨a, ns, rfl, k.sqL ha, fun ns' p perm ris hp => ?_⟩
      have e : ns' = isort ns := perm_le_eq (perm.trans (isort_perm ns).symm) ris (isort_le ns)
      subst e
      obtain ⟨e, o, rr⟩ := k.layL hp (ra_ints (isort ns))
      exact q _ _ _ e o rr
  · cases hg
def tyN : D → Option String
  | .non => some "NoneType"
  | .bl _ => some "bool"
  | .int _ => some "int"
  | .str _ => some "str"
  | .tup _ => some "tuple"
  | .lst _ => some "list"
  | _ => none
theorem R.tyX {K : PySem.W.Frag} {w : Wd} {S : Store} {H : Hp} {v : V} {d : D} {t : String} (k : Ok K cl w S H) (r : R K w v d) (h : tyN d = some t) : TyX K H v (.type t) := by
  cases r <;> simp only [tyN] at h <;> cases h
  · exact .base .non
  · exact .base (.bl _)
  · exact .base (.int _)
  · exact .base (.str _)
  · rename_i hs _ _
    rcases k.sqT hs with (h | ⟨o, h⟩) | ⟨o, its, n, hk, hc, _⟩
    · exact .base (.tup h)
    · exact .fTuple h
    · exact .kTuple hk hc
  · rename_i hs _
    exact .base (.lst (k.sub _ _ hs))
structure IsT (T : String) (p : D → Option Bool) : Prop where
  ok : ∀ d b, p d = some b → ∃ t, tyN d = some t ∧ kitB t T = some b
def isStrD : D → Option Bool
  | .str _ => some true | .int _ => some false | .non => some false | .bl _ => some false | .tup _ => some false | .lst _ => some false | _ => none
def isTupD : D → Option Bool
  | .tup _ => some true | .int _ => some false | .non => some false | .bl _ => some false | .str _ => some false | .lst _ => some false | _ => none
theorem isT_str : IsT "str" isStrD := ⟨fun d b h => by cases d <;> simp only [isStrD] at h <;> cases h <;> exact ⟨_, rfl, by decide +kernel⟩⟩
theorem isT_tup : IsT "tuple" isTupD := ⟨fun d b h => by cases d <;> simp only [isTupD] at h <;> cases h <;> exact ⟨_, rfl, by decide +kernel⟩⟩
def fIsi (p : D → Option Bool) (f : Env → Store → Res D) : Env → Store → Res D := fun ρ S => (f ρ S).bind fun d S1 => Res.of S1 ((p d).map .bl)
theorem de_isi {T : String} {p : D → Option Bool} {x : Str} {e : Expr} {p1 p2 pos : Pos} {f : Env → Store → Res D} (ht : IsT T p) (h : DE X cl W e f) (hg : Gl X "isinstance") (hm : X.mg "isinstance" = none) (hgx : Gl X x) (hmx : X.mg x = none) (hvx : bootBuiltins x = some (.type T))
    (hn : x ≠ "__name__" := by decide) (hd : (x == ("__debug__" : Str)) = false := by decide)
    (he : starEach [e, Expr.Name x p2] X.env = (false, eval e X.env) :: starEach [Expr.Name x p2] X.env := by rfl) (he2 : starEach [Expr.Name x p2] X.env = (false, eval (.Name x p2) X.env) :: starEach [] X.env := by rfl) (hpl : (backTo pos (starEach [Expr.Name x p2] X.env)).any (·.1) = false := by rfl) :
    DE X cl W (.Call (.Name "isinstance" p1) [e, .Name x p2] [] pos) (fIsi p f) := by
  refine PE.imp (pe_callB call_isi hg hm (by decide +kernel) (pa_cons h (pa_cons (pe_bltn (v := .ty T) hgx hmx hvx rfl hn hd) pa_nil he2) he) (he := he) (hpl := hpl)) fun σ H Q ⟨w, ρ, S, o, n, q⟩ => tG.at o n (Post.bind q fun d S1 w1 v H1 e1 o1 r1 p1 => ?_)
  cases hp : p d with
  | none => rw [hp] at p1; exact p1.elim
  | some b =>
    rw [hp] at p1
    obtain ⟨t, ht1, ht2⟩ := ht.ok d b hp
    exact ⟨v, .ty T, .type t, .type T, b, rfl, .ty T, r1.tyX o1 ht1, kit_ty ht2, p1.here o1 (.bl _)⟩
theorem de_gstr {x y : Str} {t : Tok} {pos : Pos} (hg : Gl X x) (hm : X.mg x = some (.str y t)) (hd : (x == ("__debug__" : Str)) = false := by decide) : DE X cl W (.Name x pos) (fC (.str y)) := de_c (pe_glob (v := .str y) hg hm ⟨t, rfl⟩ hd) fun _ => .str y
/-- a tuple of the module's top, of plain values -/
theorem de_gtup {x : Str} {a : Addr} {l : List D} {pos : Pos} (hg : Gl X x) (hm : X.mg x = some (.ref a)) (h : ∀ w, R X.K w (.ref a) (.tup l)) (hd : (x == ("__debug__" : Str)) = false := by decide) : DE X cl W (.Name x pos) (fC (.tup l)) := de_c (pe_glob (v := .ref a) hg hm rfl hd) h
end
end BW
namespace BW
open PySem PySem.Spec PyProof.Rows L2
theorem u65 {k : Nat} {A : Around} (r : Room k A) : A.units + 65 < cLine := by have := r.un; omega
theorem u1 {k : Nat} {A : Around} (r : Room k A) : A.units + 1 < cLine := by have := r.un; omega
section
variable {X : Cx} {cl : Str → Addr} {e : Pt} {W : WX} {pos : Pos}
def fNew (g : Env → Store → Res (List D)) : Env → Store → Res (List D) := fun ρ S => (g ρ S).bind fun ds S1 => if ds.length ≤ LIM then .ok ds S1 else .bad
theorem PostL.bind {K : PySem.W.Frag} {α β : Type} {Rl : Wd → β → α → Prop} {σ : L2.St} {w : Wd} {H : Hp} {r : Res α} {k : α → Store → Res (List D)} {Q : VK} {Q1 : β → Hp → Prop} (h : PostL K cl W σ w H (r.bind k) Q)
    (hk : ∀ d S1 w1 v H1, Ext w H w1 H1 → Ok K cl w1 S1 H1 → Rl w1 v d → PostL K cl W σ w H (k d S1) Q → Q1 v H1) (ne : ∀ d S1 c S2, k d S1 = .err c S2 → True) : Post K cl W σ Rl w H r Q1 := by
  cases r with
  | ok d S => exact fun w1 v H1 e1 o1 r1 => hk d S w1 v H1 e1 o1 r1 h
  | err c S => exact h
  | bad => exact h
theorem PostL.mono {K : PySem.W.Frag} {σ : L2.St} {w w1 : Wd} {H H1 : Hp} {r : Res (List D)} {Q : VK} (x : Ext w H w1 H1) (h : PostL K cl W σ w H r Q) : PostL K cl W σ w1 H1 r Q := by
  cases r with
  | ok l S => exact fun w' a vs H' e o ha h' hi ra => h w' a vs H' (x.trans e) o (x.back ha) h' hi ra
  | err c S => exact fun w' H' e o => h w' H' (x.trans e) o
  | bad => exact h
end
/-- which built-in names the module leaves alone -/
structure Bt (mg : Str → Option Value) : Prop where
  len : mg "len" = none
  isinstance : mg "isinstance" = none
  int : mg "int" = none
  bool : mg "bool" = none
  str : mg "str" = none
  tuple : mg "tuple" = none
  list : mg "list" = none
  set : mg "set" = none
  dict : mg "dict" = none
  all : mg "all" = none
  zip : mg "zip" = none
  enumerate : mg "enumerate" = none
  range : mg "range" = none
  sorted : mg "sorted" = none
  min : mg "min" = none
  max : mg "max" = none
  sum : mg "sum" = none
end BW
namespace BW
open PySem PySem.Spec PyProof.Rows L2
section
variable {X : Cx} {cl : Str → Addr} {W : WX}
theorem de_gstr' {x y : Str} {pos : Pos} (hg : Gl X x) (hm : ∃ t, X.mg x = some (.str y t)) (hd : (x == ("__debug__" : Str)) = false := by decide) : DE X cl W (.Name x pos) (fC (.str y)) := hm.elim fun _ h => de_gstr hg h hd
theorem de_gtup' {x : Str} {l : List D} {pos : Pos} (hg : Gl X x) (hm : ∃ a, X.mg x = some (.ref a) ∧ ∀ w, R X.K w (.ref a) (.tup l)) (hd : (x == ("__debug__" : Str)) = false := by decide) : DE X cl W (.Name x pos) (fC (.tup l)) := hm.elim fun _ h => de_gtup hg h.1 h.2 hd
end
end BW
namespace BW
open PySem
theorem bb_int : bootBuiltins "int" = some (.type "int") := by decide +kernel
theorem bb_str : bootBuiltins "str" = some (.type "str") := by decide +kernel
theorem bb_tuple : bootBuiltins "tuple" = some (.type "tuple") := by decide +kernel
theorem bb_len : bootBuiltins "len" = some (.builtin "len") := by decide +kernel
theorem bb_all : bootBuiltins "all" = some (.builtin "all") := by decide +kernel
theorem bb_sorted : bootBuiltins "sorted" = some (.builtin "sorted") := by decide +kernel
theorem bb_min : bootBuiltins "min" = some (.builtin "min") := by decide +kernel
theorem bb_max : bootBuiltins "max" = some (.builtin "max") := by decide +kernel
end BW
namespace BW
open PySem PySem.Spec PyProof.Rows L2
/-- where a class stands -/
def clOf (K : PySem.W.Frag) : Str → Addr := fun x => match PySem.W.nsIn K mainGlobals x with
  | some (some (.ref a)) => a
  | _ => 0
theorem clOf_eq {K : PySem.W.Frag} {x : Str} {a : Addr} (h : PySem.W.nsIn K mainGlobals x = some (some (.ref a))) : clOf K x = a := by unfold clOf; rw [h]
theorem kTup {K : PySem.W.Frag} {a : Addr} {its : List Value} {n : Nat} {sl : Array (Option Value)} {vs : List V} {ds : List D} (hk : K.lookup a = some ⟨.type "tuple", none, .seq its.toArray n, sl⟩) (hz : its.length ≤ 100) (hv : Vals vs its) (ra : ∀ w, RA K w vs ds) (w : Wd) : R K w (.ref a) (.tup ds) :=
  .tup (.inr ⟨_, its.toArray, n, hk, rfl, rfl, by simpa using Nat.le_trans hz (by decide), by simpa using hv⟩) (.inr ⟨_, hk, rfl, rfl⟩) (ra w)
def lawW (a : Addr) (H : Hp) : Wd := ⟨0, fun _ => 0, fun b => if b = a then H a else none⟩
theorem law_start {K : PySem.W.Frag} {cl : Str → Addr} {H : Hp} {a : Addr} {ns : List Int} (h : SqL K H a (ns.map V.int)) : Ok K cl (lawW a H) [] H ∧ R K (lawW a H) (.ref a) (.scr ns) := by
  have e : (lawW a H).F a = H a := if_pos rfl
  refine ⟨⟨rfl, fun b o hb => ?_, fun i c hc => by simp at hc, fun i j hi => absurd hi (Nat.not_lt_zero _)⟩, .scr ?_⟩
  · by_cases eb : b = a
    · subst eb; rw [e] at hb; exact hb
    · have : (lawW a H).F b = none := if_neg eb
      rw [this] at hb; cases hb
  · rcases h with (h | ⟨o, h⟩) | h
    · exact .inl (.inl (e.trans h))
    · exact .inl (.inr ⟨o, e.trans h⟩)
    · exact .inr h
/-- what is left to show of a law -/
def LawOk (m : List D → Store → Res D) : Prop := ∀ ns : List Int, ns.length ≤ 63 → ∃ S, m [.scr ns] [] = .ok (.bl true) S
theorem law_sp {K : PySem.W.Frag} {cl : Str → Addr} {m : List D → Store → Res D} (h : LawOk m) {H : Hp} {a : Addr} {ns : List Int} (hl : ns.length ≤ 63) (hs : SqL K H a (ns.map V.int)) : spM K cl 1 m [.ref a] H (fun v _ => v = .bl true) fun _ _ _ => False := by
  obtain ⟨o, r⟩ := law_start (cl := cl) hs
  obtain ⟨S, e⟩ := h ns hl
  refine ⟨_, [], [.scr ns], o, .one r, rfl, ?_⟩
  rw [e]
  exact fun w' v H' _ _ rv => rv.bl_inv
theorem law_cx {P : Program} {w : World} {H : Hp} {s : Shared} {e : Value} {s' : Shared} (h : L2.CX P w [] H s (fun _ _ _ => False) e s') : False := by
  obtain ⟨_, _, _, _, _, _, _, _, _, _, _, _, z⟩ := h
  exact z
theorem walk_law {l : PySem.W.OpenLaw} {k : Nat} {m : List D → Store → Res D} {q : Program} {loose : List Str} {XP : (Str → Option Value) → Heap → Prop} {YP : World → Heap → Prop} {d : DefRec} {K : Params → PySem.W.Frag} (hlaw : LawOk m) (hn : l.most = some 63) (hdf : d.params.defaults = []) (hr : Room k callerA)
    (hY : ∀ (w : World) (h : Heap), YP w h → (K w.params).In h)
    (F : ∀ (w : World) (mg : Str → Option Value) (fa : Addr) (h : Heap), (K w.params).In h → h.Ns mainGlobals mg → mg d.name = some (.ref fa) →
      ∃ fd : FuncData, (∀ (s : Shared) (u : Value), BindsTo s fd ⟨[u], []⟩ [("script", u)]) ∧ ∀ base : Heap, (K w.params).In base → base.Ns mainGlobals mg → FnOk l.prog w (K w.params) mg base (L2.CX l.prog w) k fa fd ["script"] (spM (K w.params) (clOf (K w.params)) 1 m)) :
    PySem.W.WalkO q loose XP YP l.row.toRowW d [] (fun f vs => PySem.call f vs) :=
  L2.walk_of (n := 63) (k := k) (x := "script") (CX := fun w => L2.CX l.prog w) (sp := fun w => spM (K w.params) (clOf (K w.params)) 1 m) hn (by decide) hdf hr hY F (fun _ _ a ns hl _ hS => law_sp hlaw hl hS) fun _ _ _ _ _ z => law_cx z
end BW
namespace BW
open PySem L2
section
variable {α β : Type} (ρ : Env) (S : Store)
@[simp] theorem bind_ok (a : α) (k : α → Store → Res β) : (Res.ok a S).bind k = k a S := rfl
@[simp] theorem bind_err (c : Str) (k : α → Store → Res β) : (Res.err c S : Res α).bind k = .err c S := rfl
@[simp] theorem bind_bad (k : α → Store → Res β) : (Res.bad : Res α).bind k = .bad := rfl
@[simp] theorem of_some (a : α) : Res.of S (some a) = .ok a S := rfl
@[simp] theorem of_none : Res.of S (none : Option α) = .bad := rfl
@[simp] theorem oof_ok (a : α) (k : α → Store → Out) : Out.of (.ok a S) ρ k = k a S := rfl
@[simp] theorem oof_err (c : Str) (k : α → Store → Out) : Out.of (.err c S : Res α) ρ k = .err c ρ S := rfl
@[simp] theorem oof_bad (k : α → Store → Out) : Out.of (.bad : Res α) ρ k = .bad := rfl
@[simp] theorem noErr_ok (a : α) : noErr (.ok a S) = .ok a S := rfl
@[simp] theorem e_fC (d : D) : fC d ρ S = .ok d S := rfl
@[simp] theorem e_fNil : fNil ρ S = .ok [] S := rfl
@[simp] theorem e_fCons (f : Env → Store → Res D) (g : Env → Store → Res (List D)) : fCons f g ρ S = (f ρ S).bind fun d S1 => (g ρ S1).bind fun ds S2 => .ok (d :: ds) S2 := rfl
@[simp] theorem e_fTup (g : Env → Store → Res (List D)) : fTup g ρ S = (g ρ S).bind fun ds S1 => if ds.length ≤ LIM then .ok (.tup ds) S1 else .bad := rfl
@[simp] theorem e_fLst (g : Env → Store → Res (List D)) : fLst g ρ S = (g ρ S).bind fun ds S1 => if ds.length ≤ LIM then .ok (.lst ds) S1 else .bad := rfl
@[simp] theorem e_f2 (g : D → D → Store → Option D) (fa fb : Env → Store → Res D) : f2 g fa fb ρ S = (fa ρ S).bind fun a S1 => (fb ρ S1).bind fun b S2 => Res.of S2 (g a b S2) := rfl
@[simp] theorem e_fN (g : List D → Store → Option D) (fa : Env → Store → Res (List D)) : fN g fa ρ S = (fa ρ S).bind fun ds S1 => Res.of S1 (g ds S1) := rfl
@[simp] theorem e_fM (n : Nat) (m : List D → Store → Res D) (fa : Env → Store → Res (List D)) : fM n m fa ρ S = (fa ρ S).bind fun ds S1 => if ds.length = n then m ds S1 else .bad := rfl
@[simp] theorem e_fB (f : Env → Store → Res D) : fB f ρ S = (f ρ S).bind fun d S1 => match d with | .bl b => .ok b S1 | _ => .bad := rfl
@[simp] theorem e_fAnd (f g : Env → Store → Res Bool) : fAnd f g ρ S = (f ρ S).bind fun b S1 => if b = true then g ρ S1 else .ok false S1 := rfl
@[simp] theorem e_fOr (f g : Env → Store → Res Bool) : fOr f g ρ S = (f ρ S).bind fun b S1 => if b = true then .ok true S1 else g ρ S1 := rfl
@[simp] theorem e_fNot (f : Env → Store → Res Bool) : fNot f ρ S = (f ρ S).bind fun b S1 => .ok (!b) S1 := rfl
@[simp] theorem e_vAnd (f g : Env → Store → Res D) : vAnd f g ρ S = (f ρ S).bind fun d S1 => match d with | .bl true => g ρ S1 | .bl false => .ok (.bl false) S1 | _ => .bad := rfl
@[simp] theorem e_vOr (f g : Env → Store → Res D) : vOr f g ρ S = (f ρ S).bind fun d S1 => match d with | .bl true => .ok (.bl true) S1 | .bl false => g ρ S1 | _ => .bad := rfl
@[simp] theorem e_vNot (f : Env → Store → Res D) : vNot f ρ S = (f ρ S).bind fun d S1 => match d with | .bl b => .ok (.bl (!b)) S1 | _ => .bad := rfl
@[simp] theorem e_fNeg (f : Env → Store → Res D) : fNeg f ρ S = (f ρ S).bind fun d S1 => match d with | .int i => .ok (.int (-i)) S1 | _ => .bad := rfl
@[simp] theorem e_fIf (t : Env → Store → Res Bool) (f g : Env → Store → Res D) : fIf t f g ρ S = (t ρ S).bind fun b S1 => if b = true then f ρ S1 else g ρ S1 := rfl
@[simp] theorem e_fChain (g g' : D → D → Store → Option D) (fa fb fc : Env → Store → Res D) : fChain g g' fa fb fc ρ S = (fa ρ S).bind fun a S1 => (fb ρ S1).bind fun b S2 => match g a b S2 with
    | some (.bl true) => (fc ρ S2).bind fun c S3 => Res.of S3 (g' b c S3)
    | some (.bl false) => .ok (.bl false) S2
    | _ => .bad := rfl
@[simp] theorem e_fIsi (p : D → Option Bool) (f : Env → Store → Res D) : fIsi p f ρ S = (f ρ S).bind fun d S1 => Res.of S1 ((p d).map .bl) := rfl
@[simp] theorem e_fCut (f : Env → Store → Res D) (l h : Env → Store → Res (Option Int)) : fCut f l h ρ S = (f ρ S).bind fun d S1 => (l ρ S1).bind fun lo S2 => (h ρ S2).bind fun hi S3 => Res.of S3 (gCut d lo hi) := rfl
@[simp] theorem e_oNone : oNone ρ S = .ok none S := rfl
@[simp] theorem e_oSome (f : Env → Store → Res D) : oSome f ρ S = (f ρ S).bind fun d S1 => match d with | .int i => .ok (some i) S1 | _ => .bad := rfl
@[simp] theorem e_fFrz (f : Env → Store → Res (List D)) : fFrz f ρ S = (f ρ S).bind fun l S1 => .ok (.lst l) S1 := rfl
@[simp] theorem e_fNew (g : Env → Store → Res (List D)) : fNew g ρ S = (g ρ S).bind fun ds S1 => if ds.length ≤ LIM then .ok ds S1 else .bad := rfl
@[simp] theorem e_fYes : fYes ρ S = .ok true S := rfl
@[simp] theorem e_fComp (fi : Env → Store → Res (List D)) (t : Tgt) (ft : Env → Store → Res Bool) (fe : Env → Store → Res D) (vs : List Nat) : fComp fi t ft fe vs ρ S = (fi ρ S).bind fun ds S1 => compL t ft fe (wipeE ρ vs) ds S1 [] := rfl
@[simp] theorem e_fItems (f : Env → Store → Res D) : fItems f ρ S = (f ρ S).bind fun d S1 => match d with
  | .lst l => .ok l S1
  | .tup l => .ok l S1
  | .str x => .ok (x.cps.toList.map fun c => .str ⟨#[c]⟩) S1
  | .dic kvs => .ok (kvs.map fun kv => kD kv.1) S1
  | _ => .bad := rfl
@[simp] theorem e_fI (k : List D → Option (List D)) (fa : Env → Store → Res (List D)) : fI k fa ρ S = (fa ρ S).bind fun ds S1 => Res.of S1 (k ds) := rfl
@[simp] theorem e_sNil : sNil ρ S = .next ρ S := rfl
@[simp] theorem e_sRet (f : Env → Store → Res D) : sRet f ρ S = Out.of (f ρ S) ρ fun d S1 => .ret d S1 := rfl
@[simp] theorem e_sExpr (f : Env → Store → Res D) : sExpr f ρ S = Out.of (f ρ S) ρ fun _ S1 => .next ρ S1 := rfl
@[simp] theorem e_sIf (t : Env → Store → Res Bool) (g h : Stm) : sIf t g h ρ S = Out.of (t ρ S) ρ fun b S1 => if b = true then g ρ S1 else h ρ S1 := rfl
@[simp] theorem e_sSet (i : Nat) (f : Env → Store → Res D) : sSet i f ρ S = Out.of (f ρ S) ρ fun d S1 => .next (ρ.set i (some (.dat d))) S1 := rfl
@[simp] theorem e_sSetOwn (i : Nat) (f : Env → Store → Res (List D)) : sSetOwn i f ρ S = Out.of (f ρ S) ρ fun l S1 => .next (ρ.set i (some (.own l))) S1 := rfl
@[simp] theorem e_sFor (fi : Env → Store → Res (List D)) (t : Tgt) (g : Stm) : sFor fi t g ρ S = Out.of (fi ρ S) ρ fun ds S1 => forL t g ds ρ S1 := rfl
@[simp] theorem e_sAsg (t : Tgt) (f : Env → Store → Res D) : sAsg t f ρ S = Out.of (f ρ S) ρ fun d S1 => match t d ρ with | some ρ' => .next ρ' S1 | none => .bad := rfl
@[simp] theorem e_tgName (i : Nat) (d : D) : tgName i d ρ = some (ρ.set i (some (.dat d))) := rfl
@[simp] theorem e_tgCons (t : Tgt) (u : Tgts) (d : D) (r : List D) : tgCons t u (d :: r) ρ = (t d ρ).bind (u r) := rfl
@[simp] theorem e_tgTup (n : Nat) (u : Tgts) (l : List D) : tgTup n u (.tup l) ρ = if l.length = n then u l ρ else none := rfl
end
@[simp] theorem e_seq_next (g h : Stm) (ρ : Env) (S : Store) : sSeq g h ρ S = match g ρ S with | .next ρ1 S1 => h ρ1 S1 | o => o := rfl
@[simp] theorem e_fV0 (a : Slot) (l : Env) (S : Store) : fV 0 (some a :: l) S = match a with | .dat d => .ok d S | _ => .bad := by cases a <;> rfl
@[simp] theorem e_fVs (i : Nat) (a : Option Slot) (l : Env) (S : Store) : fV (i + 1) (a :: l) S = fV i l S := by unfold fV; simp
@[simp] theorem e_fVn (a : Option Slot) (l : Env) (S : Store) (i : Nat) : fV i.succ (a :: l) S = fV i l S := by unfold fV; simp
@[simp] theorem e_start (n : Nat) (ds : List D) : startE n ds = ds.map (fun d => some (.dat d)) ++ List.replicate (n - ds.length) none := rfl
@[simp] theorem e_mOf (n : Nat) (g : Stm) (ds : List D) (S : Store) : mOf n g ds S = match g (startE n ds) S with | .next _ S' => .ok .non S' | .ret d S' => .ok d S' | .err c _ S' => .err c S' | _ => .bad := rfl
section
variable (S : Store)
@[simp] theorem o1 (i j : Int) : gAdd (.int i) (.int j) S = some (.int (i + j)) := rfl
@[simp] theorem o2 (i j : Int) : gSub (.int i) (.int j) S = some (.int (i - j)) := rfl
theorem mul_ok {i j : Int} (h : (-(2 ^ 64) < i ∧ i < 2 ^ 64) ∨ (-(2 ^ 64) < j ∧ j < 2 ^ 64)) : gMul (.int i) (.int j) S = some (.int (i * j)) := by
  show (if _ then _ else _) = _
  rw [if_pos h]
theorem fdiv_ok {i j : Int} (h1 : 0 < j) (h2 : j < 1073741824) : gFdiv (.int i) (.int j) S = some (.int (i / j)) := by
  show (if _ then _ else _) = _
  rw [if_pos ⟨h1, h2⟩]
theorem mod_ok {i j : Int} (h : 0 < j) : gMod (.int i) (.int j) S = some (.int (i % j)) := by
  show (if _ then _ else _) = _
  rw [if_pos h]
@[simp] theorem o_lenL (l : List D) : gLen [.lst l] S = some (.int (l.length : Nat)) := rfl
@[simp] theorem o_lenT (l : List D) : gLen [.tup l] S = some (.int (l.length : Nat)) := rfl
@[simp] theorem o_lenS (l : List Int) : gLen [.scr l] S = some (.int (l.length : Nat)) := rfl
theorem eq_ok {a b : D} (neg : Bool) (ha : okD 12 a = true) (hb : okD 12 b = true) : gEq neg a b S = some (.bl (xor neg (deq a b))) := by
  unfold gEq
  rw [ha, hb]
  rfl
@[simp] theorem deq_int (i j : Int) : deq (.int i) (.int j) = (i == j) := by simp [deq, toPy, PyData.eqv]
@[simp] theorem deq_str (i j : Str) : deq (.str i) (.str j) = (i == j) := by simp [deq, toPy, PyData.eqv]
@[simp] theorem eq_int (neg : Bool) (i j : Int) : gEq neg (.int i) (.int j) S = some (.bl (xor neg (i == j))) := by rw [eq_ok S neg rfl rfl, deq_int]
@[simp] theorem ix_tup_nat (l : List D) (n : Nat) : gIx (.tup l) (.int (n : Int)) S = l[n]? := by
  show atI l _ = _
  unfold atI ixN
  rw [if_pos (Int.natCast_nonneg n)]
  by_cases h : n < l.length
  · rw [if_pos (by omega)]; simp
  · rw [if_neg (by omega)]; simp; omega
@[simp] theorem ix_lst_nat (l : List D) (n : Nat) : gIx (.lst l) (.int (n : Int)) S = l[n]? := ix_tup_nat S l n
theorem ix_tup (l : List D) {i : Int} (h : 0 ≤ i) : gIx (.tup l) (.int i) S = l[i.toNat]? := by
  have := ix_tup_nat S l i.toNat
  rw [Int.toNat_of_nonneg h] at this
  exact this
theorem ix_lst (l : List D) {i : Int} (h : 0 ≤ i) : gIx (.lst l) (.int i) S = l[i.toNat]? := ix_tup S l h
end
theorem lim_small {n : Nat} (h : n ≤ 1000) : n ≤ LIM := Nat.le_trans h (by decide)
theorem limlt_small {n : Nat} (h : n ≤ 1000) : n < LIM := Nat.lt_of_le_of_lt h (by decide)
theorem bools_map {α : Type} (p : α → Bool) : ∀ xs : List α, bools? (xs.map fun x => D.bl (p x)) = some (xs.map p)
  | [] => rfl
  | x :: xs => by simp [bools?, bools_map p xs]
theorem all_map (S : Store) {α : Type} (p : α → Bool) (xs : List α) : gAll [.lst (xs.map fun x => D.bl (p x))] S = some (.bl (xs.all p)) := by
  simp only [gAll, bools_map, Option.map_some]
  congr 2
  induction xs with
  | nil => rfl
  | cons x xs ih => simp [ih]
theorem any_strs (s : Str) : ∀ ws : List Str, (ws.map D.str).any (fun z => deq z (.str s)) = ws.any (· == s)
  | [] => rfl
  | w :: ws => by simp only [List.map_cons, List.any_cons, deq_str, any_strs s ws]
theorem in_strs (S : Store) (neg : Bool) (s : Str) (ws : List Str) (hs : PyData.strOk s = true) (hw : ws.all PyData.strOk = true) : gIn neg (.str s) (.tup (ws.map .str)) S = some (.bl (xor neg (ws.any (· == s)))) := by
  have h : okD 12 (.tup (ws.map D.str)) = true := by
    simp only [okD, List.all_map]
    exact hw
  have h2 : okD 12 (.str s) = true := hs
  show (if okD 12 (.str s) && okD 12 (.tup (ws.map D.str)) then some (D.bl (xor neg ((ws.map D.str).any fun z => deq z (.str s)))) else none) = _
  rw [h, h2, any_strs]
  rfl
end BW
namespace BW
open PySem PySem.Spec PyProof.Rows L2
def sRaise (c : Str) : Stm := fun ρ S => .err c ρ S
abbrev veMro : List Value := [.type "ValueError", .type "Exception", .type "BaseException", .type "object"]
/-- an own class of errors, as the module has it -/
structure XcOk (K : PySem.W.Frag) (mg : Str → Option Value) (cl : Str → Addr) (x : Str) : Prop where
  g : mg x = some (.ref (cl x))
  q : PySem.W.excIn K (cl x) veMro "ValueError.__new__" = true
  k : PySem.W.keepIn K (.ref (cl x)) = true
  b : PySem.W.subIn K (.ref (cl x)) (.type "BaseException") = some true
  t : PySem.W.typeIn K (.ref (cl x)) = some (.type "type")
section
variable {X : Cx} {cl : Str → Addr} {W : WX} {e : Pt}
theorem ds_raise {x m : Str} {j : Nat} {p p2 pos pos' : Pos} (C : XcOk X.K X.mg cl x) (hc : X.calm = true) (tk : Takes X W) (hg : Gl X x) (hdb : (x == ("__debug__" : Str)) = false := by decide) :
    DS X cl e W (.Raise (some (.Call (.Name x p) [.Constant (.str m) j p2] [] pos)) none pos') (sRaise x) :=
  PS.imp (ps_raise hc tk (pmk_own PySem.F.excBase_ValueError C.q C.g C.k (raises_own C.b C.t) hg hdb)) fun Z σ H ⟨w, ρ, S, fs, p⟩ => p w σ H (Le.refl _) fs
/-- slot i holds the address a -/
def fAt {α : Type} (i : Nat) (a : Addr) (r : Store → Res α) : BW.Env → Store → Res α := fun ρ S => match ρ[i]? with
  | some (some (.adr b)) => if b = a then r S else .bad
  | _ => .bad
theorem fAt_inv {K : PySem.W.Frag} {α : Type} {i : Nat} {a : Addr} {r : Store → Res α} {ρ : BW.Env} {S : Store} {σ : L2.St} {H : Hp} {w : Wd} (n : EnvR K w H σ ρ) {P : Res α → Prop} (hb : ¬ P .bad) (h : P (fAt i a r ρ S)) : σ[i]? = some (some (.ref a)) ∧ P (r S) := by
  unfold fAt at h
  split at h
  · rename_i b eb
    split at h
    · rename_i e
      subst e
      obtain ⟨v, hv, sv⟩ := n.slot i _ eb
      cases sv
      exact ⟨hv, h⟩
    · exact absurd h hb
  · exact absurd h hb
theorem call_isP {a E : Addr} {oe : Obj} (C : ExcC X.K E) (hp : (a, oe) ∈ X.pn) (hz : Zc (.ref E) none oe) (hf : ∃ vs, oe.data = .fields vs) : CallR X (.builtin "isinstance") (rIsE X.K E a) := by
  intro pins s σ H xs us Q I r h
  obtain ⟨c, cv, b, rfl, hcv, e, q⟩ := h
  match us, r with
  | [u1, u2], .cons r1 (.cons r2 .nil) =>
    cases r1
    have ec := hcv _ r2
    subst ec
    have hget := (I.pin (a, oe) (List.mem_append_left _ hp)).1
    obtain ⟨vs, hv⟩ := hf
    have J : PySem.W.InstAt s.heap a oe E none := by
      cases oe with
      | mk oc od oda osl =>
        have h1 := hz.1
        have h2 := hz.2
        dsimp only at h1 h2 hv
        subst h1 h2 hv
        exact ⟨hget, rfl, rfl, trivial⟩
    have kx := PySem.W.handS_kitx_exc (x := a) (ox := oe) C.hg C.hk C.hs C.hd C.ha C.hn C.ht C.hm
    exact PySem.W.kia_one kx I.kIn J e (fun z => nomatch z) fun tk => ⟨.bl b, H, I.kept (t' := tk) fun _ _ z => z, rfl, q⟩
/-- isinstance(e, x), x a class of the text -/
theorem de_isE {i : Nat} {a E : Addr} {oe : Obj} {b : Bool} {c : V} {cv : Value} {n x : Str} {p1 p2 p3 pos : Pos} (C : ExcC X.K E) (hp : (a, oe) ∈ X.pn) (hz : Zc (.ref E) none oe) (hf : ∃ vs, oe.data = .fields vs) (hv : PE X (.Name n p3) (tVar i)) (hx : PE X (.Name x p2) (tC c)) (hcv : ∀ u, RelV c u → u = cv) (hk : PySem.W.kitOne X.K (.ref E) cv = some b)
    (hg : Gl X "isinstance") (hm : X.mg "isinstance" = none) (he : starEach [Expr.Name n p3, Expr.Name x p2] X.env = (false, eval (.Name n p3) X.env) :: starEach [Expr.Name x p2] X.env := by rfl) (he2 : starEach [Expr.Name x p2] X.env = (false, eval (.Name x p2) X.env) :: starEach [] X.env := by rfl) (hpl : (backTo pos (starEach [Expr.Name x p2] X.env)).any (·.1) = false := by rfl) :
    DE X cl W (.Call (.Name "isinstance" p1) [.Name n p3, .Name x p2] [] pos) (fAt i a fun S => .ok (.bl b) S) := by
  refine PE.imp (pe_callB (call_isP C hp hz hf) hg hm (by decide +kernel) (pa_cons hv (pa_cons hx pa_nil he2) he) (he := he) (hpl := hpl)) fun σ H Q ⟨w, ρ, S, o, n, q⟩ => ?_
  obtain ⟨h1, h2⟩ := fAt_inv (P := fun r => Post X.K cl W σ (R X.K) w H r Q) n (fun z => z) q
  exact ⟨.ref a, h1, c, cv, b, rfl, hcv, hk, h2.here o (.bl b)⟩
end
structure FnE (P : Program) (w : World) (K : PySem.W.Frag) (mg : Str → Option Value) (base : Heap) (k : Nat) (f : Addr) (fd : FuncData) (ps : List Str) (p : Addr × Obj) (sp : Sp) : Prop where
  len : ∀ vs H Q E, sp vs H Q E → vs.length = ps.length
  run : ∀ (A : Around) (outer : List PySem.Env) (s : Shared) (H : Hp) (args : Args) (us : List Value) (vs : List V) (Q : VK) (E : XK), L2H.RoomH k A → L2H.PinOk outer H s p → Env0 P w K mg base A outer s H → BindsTo s fd args (ps.zip us) → Vals vs us →
    sp vs H Q E → codeAny (model P w) A (.call (.ref f) args) (CR (L2.CX P w) outer P w H s Q E) s
section
variable {P : Program} {w : World} {K : PySem.W.Frag} {mg : Str → Option Value} {base : Heap} {cl : Str → Addr}
theorem FnE.of {x qual : Str} {st : Stmt} {f : Addr} {fd : FuncData} {N ps : List Str} {k : Nat} {p : Addr × Obj} {sp : Sp} (F : Fun K x qual st f fd) (Sc : FnScope N ps (defScope st)) (len : ∀ vs H Q E, sp vs H Q E → vs.length = ps.length)
    (body : ∀ (cdv : Value) (A : Around) (outer : List PySem.Env) (s : Shared) (H : Hp) (vs : List V) (Q : VK) (E : XK), L2H.RoomH k (A.deeper (envOfC qual (defScope st) s.heap.objs.size f cdv)) → sp vs H Q E →
      ∃ t, PSs (L2H.cxH (L2.CX P w) P w K mg base N qual (defScope st) f cdv A outer s H E p) (defBody st) t ∧ t { nx := fun _ H' => Q .non H', rt := Q } (L2.start N vs) H) : FnE P w K mg base (k + 1) f fd ps p sp := by
  obtain ⟨oc, od, kV, doc, pm, an, cdv, ct, osl, rfl, lk, hcd⟩ := F.ex
  refine ⟨len, fun A outer s H args us vs Q E room pin e0 binds rel want => ?_⟩
  have there : ∀ b o, base.get? b = some o → s.heap.get? b = some o := fun b o e => (e0.bs b o e).1
  have KX : K.In s.heap := e0.mod.kin.keeps there
  have kinds : ∀ y ∈ ps.zip us, (defScope st).names.lookup y.1 = some .local ∨ ((defScope st).names.lookup y.1 = some .cell ∧ ((cellsFrom (s.heap.objs.size + 1) (defScope st).names []).lookup y.1).isSome = true) := by
    rintro ⟨y, z⟩ hy
    have := Sc.par y (List.of_mem_zip hy).1
    exact this.elim Or.inl fun c => Or.inr ⟨c, PySem.W.cellsFrom_some _ _ _ (.inl c)⟩
  refine codeAny_call_function room.depth (KX _ _ lk) rfl Sc.co Sc.gen rfl (PySem.W.codeRec_of KX hcd) (binds _ _ _ _ ?_)
  refine wpAny_newFunctionEnv_cells Sc.kind kinds fun env he s1 inside => ?_
  subst he
  refine ⟨(e0.mod.nolimit.keeps there).keeps inside.toInCall.keep, codeAny_func ?_⟩
  obtain ⟨t, ht, hq⟩ := body cdv A outer s H vs Q E (room.deeper _) want
  refine wpAny_mono (ht.run [] s1 (L2.start N vs) H _ (L2H.inv_startH Sc pin e0 (len _ _ _ _ want) rel inside) hq) (fun fl s' got => ?_) fun _ _ z => z
  cases fl with
  | ret u =>
    obtain ⟨v, σ', H', J, rv, done⟩ := got
    exact ⟨v, H', J.os, J.bare, J.base, J.hok, rv, done⟩
  | next =>
    obtain ⟨σ', H', J, done⟩ := got
    exact ⟨.non, H', J.os, J.bare, J.base, J.hok, rfl, done⟩
  | brk => obtain ⟨_, _, _, z⟩ := got; exact z.elim
  | cont => obtain ⟨_, _, _, z⟩ := got; exact z.elim
def spE (K : PySem.W.Frag) (cl : Str → Addr) (a : Addr) (r : Store → Res D) : Sp := fun vs H Q E => vs = [.ref a] ∧ ∃ w S, Ok K cl w S H ∧ Post K cl (fun c d _ H => E c d H) [] (R K) w H (r S) Q
def startX (n : Nat) (a : Addr) : BW.Env := some (.adr a) :: List.replicate (n - 1) none
def mOfE (n : Nat) (a : Addr) (g : Stm) : Store → Res D := fun S => match g (startX n a) S with
  | .next _ S' => .ok .non S'
  | .ret d S' => .ok d S'
  | .err c _ S' => .err c S'
  | _ => .bad
theorem startX_get {N : List Str} {a : Addr} {i : Nat} {s : Slot} (h : (startX N.length a)[i]? = some (some s)) : i = 0 ∧ s = .adr a := by
  unfold startX at h
  cases i with
  | zero => cases h; exact ⟨rfl, rfl⟩
  | succ i =>
    rw [List.getElem?_cons_succ, List.getElem?_replicate] at h
    split at h <;> cases h
theorem Fun.fnE {x qual : Str} {st : Stmt} {bd : List Stmt} {sc : Scope} {f : Addr} {fd : FuncData} {N : List Str} {y : Str} {k n : Nat} {p : Addr × Obj} {g : Stm} (F : Fun K x qual st f fd) (hn : N.length = n) (hsc : defScope st = sc) (hbd : defBody st = bd) (Sc : FnScope N [y] sc)
    (body : ∀ (cdv : Value) (A : Around) (outer : List PySem.Env) (s : Shared) (H : Hp) (E : XK) (e : Pt), L2H.RoomH k (A.deeper (envOfC qual sc s.heap.objs.size f cdv)) →
      DSs (L2H.cxH (L2.CX P w) P w K mg base N qual sc f cdv A outer s H E p) cl e (WOf E) bd g) : FnE P w K mg base (k + 1) f fd [y] p (spE K cl p.1 (mOfE n p.1 g)) := by
  subst hsc hbd hn
  have hpos : 0 < N.length := by
    have := congrArg List.length Sc.pre
    rw [List.length_take] at this
    simp only [List.length_cons, List.length_nil] at this
    omega
  refine FnE.of F Sc (fun vs H Q E h => by rw [h.1]; rfl) (fun cdv A outer s H vs Q E hr h => ?_)
  obtain ⟨rfl, u, S, o, q⟩ := h
  refine ⟨_, body cdv A outer s H E ⟨u, H⟩ hr, u, startX N.length p.1, S, ⟨Ext.refl _ _, o, ⟨?_, fun i sl hs => ?_, fun i j sl t v _ hs _ os => ?_⟩, fun i sl a hs os => ?_⟩, ?_⟩
  · unfold L2.start startX
    simp
  · obtain ⟨rfl, rfl⟩ := startX_get hs
    exact ⟨.ref p.1, rfl, rfl⟩
  · obtain ⟨rfl, rfl⟩ := startX_get hs
    cases os
  · obtain ⟨rfl, rfl⟩ := startX_get hs
    cases os
  · unfold mOfE at q
    cases hg : g (startX N.length p.1) S with
    | next ρ S' => rw [hg] at q; exact fun w' σ' H' _ fs => q w' .non H' fs.ext fs.ok .non
    | ret d S' => rw [hg] at q; exact fun w' v H' _ x o' rv => q w' v H' x o' rv
    | err c ρ S' => rw [hg] at q; exact fun w' σ' H' _ fs => q w' H' fs.ext fs.ok
    | brk ρ S' => rw [hg] at q; exact q.elim
    | cont ρ S' => rw [hg] at q; exact q.elim
    | bad => rw [hg] at q; exact q.elim
end
end BW
namespace BW
open PySem PySem.Spec PyProof.Rows L2
/-- a def that takes it: what it gives by the error's class -/
structure DfE (P : Program) (w : World) (K : PySem.W.Frag) (mg : Str → Option Value) (base : Heap) (cl : Str → Addr) (k : Nat) (x y : Str) (cs : List Str) (m : Str → Store → Res D) : Prop where
  ex : ∃ f fd, (∀ c ∈ cs, ∀ p : Addr × Obj, Zc (.ref (cl c)) none p.2 → (∃ vs, p.2.data = .fields vs) → FnE P w K mg base k f fd [y] p (spE K cl p.1 (m c))) ∧ mg x = some (.ref f) ∧ PySem.W.keepIn K (.ref f) = true ∧ Binds K fd [y] []
section
variable {X : Cx} {cl : Str → Addr} {W : WX} {e : Pt}
theorem de_callE {k j i : Nat} {x y n c : Str} {cs : List Str} {m : Str → Store → Res D} {a : Addr} {oe : Obj} {q p3 pos : Pos} (G : DfE X.prog X.w X.K X.mg X.base cl k x y cs m) (hc : c ∈ cs) (hz : Zc (.ref (cl c)) none oe) (hf : ∃ vs, oe.data = .fields vs) (hp : (a, oe) ∈ X.pn) (hr : L2H.RoomH j X.A) (hj : k ≤ j) (hg : Gl X x) (tk : Takes X W) (hv : PE X (.Name n p3) (tVar i))
    (hdb : (x == ("__debug__" : Str)) = false := by decide) (he : starEach [Expr.Name n p3] X.env = (false, eval (.Name n p3) X.env) :: starEach [] X.env := by rfl) (hpl : (backTo pos (starEach [] X.env)).any (·.1) = false := by rfl) :
    DE X cl W (.Call (.Name x q) [.Name n p3] [] pos) (fAt i a (m c)) := by
  obtain ⟨f, fd, F0, hm, hk, hb⟩ := G.ex
  have F := F0 c hc (a, oe) hz hf
  have ha : PA X [.Name n p3] (tCons (tVar i) tNil) := pa_cons hv pa_nil he
  refine ⟨fun pins s σ H Q I h => ?_⟩
  obtain ⟨w, ρ, S, o, en, po⟩ := h
  obtain ⟨h1, h2⟩ := fAt_inv (P := fun r => Post X.K cl W σ (R X.K) w H r Q) en (fun z => z) po
  refine wpAny_Call_Name_kw (ld_glob I hg hm ?_ hdb)
  have hrun := ha.run pos pins s σ H (fun vs H1 => vs = [V.ref a] ∧ H1 = H) I ⟨.ref a, h1, rfl, rfl⟩
  refine PySem.W.callWith_K (h₀ := X.base) I.ok.mod.kin hk (thn hrun fun us s1 ⟨vs, H1, I1, rel, ev, eH⟩ => ⟨I1.kIn, ?_⟩) he hpl
  subst ev eH
  have bt := hb s1 us I1.kIn (by rw [List.append_nil, ← rel.length]; rfl)
  rw [List.append_nil] at bt
  have pn := I1.pin (a, oe) (List.mem_append_left _ hp)
  have hpin : L2H.PinOk X.stack H1 s1 (a, oe) := ⟨pn.1, pn.2.1, fun hm => (List.mem_cons.mp (I1.stkSub a hm)).elim pn.2.2.1 pn.2.2.2.1, pn.2.2.2.2⟩
  have go := F.run X.A X.stack s1 H1 ⟨us, []⟩ us _ Q (WE W σ) (hr.mono hj) hpin I1.env0 bt rel ⟨rfl, w, S, o, Post.w h2 fun _ _ z => z⟩
  refine wpAny_call (codeAny_mono go fun r s' got => ?_)
  match r, got with
  | .error u, got => exact passAt tk σ pins H1 s1 u s' I1 got
  | .ok (.ret u), got => exact I1.after got
theorem Fs.setN {K : PySem.W.Frag} {σ : L2.St} {H : Hp} {w : Wd} {ρ : BW.Env} {S : Store} {i : Nat} {v : V} {s : Slot} (f : Fs K cl e σ H w ρ S) (so : s.isOwn = false) (ok : SlotOk K w H s v) : Fs K cl e (σ.set i (some v)) H w (ρ.set i (some s)) S := by
  have no : ∀ {t : Slot}, (ρ.set i (some s))[i]? = some (some t) → t.isOwn = true → False := fun {t} ht ot => by
    by_cases hj : i < ρ.length
    · rw [List.getElem?_set_self hj] at ht; cases ht; rw [so] at ot; cases ot
    · rw [List.getElem?_eq_none (by simpa using Nat.le_of_not_lt hj)] at ht; cases ht
  refine ⟨f.ext, f.ok, ⟨by simp [f.env.len], fun j t ht => ?_, fun j l t t' u hjl hs ht os ot hj hl => ?_⟩, fun j t b hs os hj => ?_⟩
  · by_cases ej : j = i
    · subst ej
      have hj : j < ρ.length := by simpa using (List.getElem?_eq_some_iff.mp ht).1
      rw [List.getElem?_set_self hj] at ht
      cases ht
      exact ⟨v, by rw [List.getElem?_set_self (by rw [f.env.len]; exact hj)], ok⟩
    · rw [List.getElem?_set_ne (Ne.symm ej)] at ht ⊢
      exact f.env.slot j t ht
  · by_cases ej : j = i
    · subst ej; exact no hs os
    · by_cases el : l = i
      · subst el; exact no ht ot
      · rw [List.getElem?_set_ne (Ne.symm ej)] at hs hj
        rw [List.getElem?_set_ne (Ne.symm el)] at ht hl
        exact f.env.sep j l t t' u hjl hs ht os ot hj hl
  · by_cases ej : j = i
    · subst ej; exact (no hs os).elim
    · rw [List.getElem?_set_ne (Ne.symm ej)] at hs hj
      exact f.fr j t b hs os hj
def sTry (gb : Stm) (i : Nat) (cs : List Str) (FE : Str → BW.Env → Store → Res D) : Stm := fun ρ S => match gb ρ S with
  | .err c ρ' S' => if i < ρ'.length ∧ c ∈ cs then Out.of (noErr (FE c (ρ'.set i none) S')) ρ' fun d S1 => .ret d S1 else .bad
  | o => o
theorem ds_try {i : Nat} {x n : Str} {c : Value} {cs : List Str} {body : List Stmt} {ex : Expr} {np rp pos' pos : Pos} {gb : Stm} {fe : Addr → Str → BW.Env → Store → Res D} {FE : Str → BW.Env → Store → Res D}
    (hb : ∀ (W : WX) (pn : List (Addr × Obj)) (xe : Value → Shared → Prop), Takes (X.tr pn xe) W → PassesOwn (model X.prog X.w) X.A X.env xe → DSs (X.tr pn xe) cl e W body gb)
    (hsu : ∀ (a : Addr) (oe : Obj) (k : Str) (pn : List (Addr × Obj)), k ∈ cs → Zc (.ref (cl k)) none oe → (∃ vs, oe.data = .fields vs) → DE (X.suite a ((a, oe) :: pn)) cl W0 ex (fe a k))
    (hfe : ∀ (a : Addr) (k : Str) (ρ : BW.Env) (S : Store), i < ρ.length → k ∈ cs → fe a k (ρ.set i (some (.adr a))) S = FE k (ρ.set i none) S)
    (hex : ∀ k ∈ cs, PySem.W.exmOne X.K (.ref (cl k)) c = some true)
    (hs : X.stack = X.env :: X.outer) (hf : X.env.frame = some X.env.locals) (hN : X.N.Nodup) (hi : X.N[i]? = some n) (hln : X.env.kindOf n = some .local) (hc : Names X x c) :
    DS X cl e W (.Try body [.ExceptHandler (some (.Name x np)) (some n) [.Return (some ex) rp] pos'] [] [] pos) (sTry gb i cs FE) := by
  refine PS.imp (ps_try_as (X := X) (Wout := W0) (tb := fun W' => tSt X.K cl e W' gb) (ts := fun a cls d Z σ H => ∃ k, k ∈ cs ∧ cls = .ref (cl k) ∧ d = none ∧ tSt X.K cl e W0 (sRet (fe a k)) Z σ H) hs hf hN hi hln hc takes0 hb (fun a oe cls d pn hz hv => ?_)) fun Z σ H h => ?_
  · refine ⟨fun pins s σ H Z I ⟨k, hk, e1, e2, t⟩ => ?_⟩
    subst e1 e2
    exact (dss_one (ds_ret (hsu a oe k pn hk hz hv))).run pins s σ H Z I t
  · obtain ⟨w, ρ, S, fs, p⟩ := h
    refine ⟨w, ρ, S, fs, ?_⟩
    unfold sTry at p
    cases hg : gb ρ S with
    | next ρ1 S1 => rw [hg] at p; exact p
    | ret d S1 => rw [hg] at p; exact p
    | brk ρ1 S1 => rw [hg] at p; exact p
    | cont ρ1 S1 => rw [hg] at p; exact p
    | bad => rw [hg] at p; exact p
    | err k ρ1 S1 =>
      rw [hg] at p
      dsimp only at p
      split at p
      · rename_i hh
        intro w1 σ1 H1 l1 f1
        refine ⟨true, hex k hh.2, fun _ a ha => ⟨k, hh.2, rfl, rfl, w1, ρ1.set i (some (.adr a)), S1, f1.setN rfl rfl, ?_⟩, fun z => nomatch z⟩
        unfold sRet
        rw [hfe a k ρ1 S1 hh.1 hh.2]
        cases hF : FE k (ρ1.set i none) S1 with
        | bad => rw [hF] at p; exact p
        | err c' S2 => rw [hF] at p; exact p.elim
        | ok d S2 =>
          rw [hF] at p
          exact fun w2 v H2 l2 e2 o2 r2 => p w2 v H2 (l1.trans l2) e2 o2 r2
      · exact p.elim
theorem mt_count : MtR X "list.count" (fun x xs H Q => ∃ (a : Addr) (ys : List V) (y : V), x = V.ref a ∧ xs = [y] ∧ SqL X.K H a ys ∧ flatV y = true ∧ ys.all flatV = true ∧ Q (.int ((ys.countP fun z => eqV z y : Nat) : Int)) H) := by
  intro pins s σ H x xs v us Q I rx rxs h
  obtain ⟨a, ys, y, rfl, rfl, hs, fy, fys, q⟩ := h
  cases rx
  match us, rxs with
  | [uy], .cons ry .nil =>
    obtain ⟨its, rv, ⟨⟨cls, dd, data, sl⟩, n, ho, hc, hdn, hd⟩, hlen⟩ := I.list hs
    simp only at hc hd
    subst hc hd
    have cnt : its.countP (eqU y) = ys.countP fun z => eqV z y := by
      clear ho hlen hs q hdn
      induction rv with
      | nil => rfl
      | cons r t ih =>
        rw [List.all_cons, Bool.and_eq_true] at fys
        rw [List.countP_cons, List.countP_cons, ih fys.2, eqU_of r fys.1]
    refine call_meets PySem.F.slot_list_count ⟨_, ho, rfl⟩ PySem.F.entry_list_count (PySem.F.args_list_count_2 _ _) (SeqAt.list_countAt a its.toArray n dd sl uy (eqU y)) ⟨ho, fun u' hu' => mem_eqAt ry fy rv fys u' (by simpa using hu'), ?_⟩
    refine ⟨.int _, H, I.kept (t' := _) fun _ _ z => z, ⟨_, rfl⟩, ?_⟩
    simpa [cnt] using q
def fMt (g : List D → List D → Store → Option D) (fo : BW.Env → Store → Res D) (fa : BW.Env → Store → Res (List D)) : BW.Env → Store → Res D := fun ρ S => (fo ρ S).bind fun d S1 => match d with
  | .lst l => (fa ρ S1).bind fun ds S2 => Res.of S2 (g l ds S2)
  | _ => .bad
def gCountT : List D → List D → Store → Option D
  | l, [.bl b], _ => (bools? l).map fun bs => .int ((bs.countP (· == b) : Nat) : Int)
  | _, _, _ => none
def gIndexT : List D → List D → Store → Option D
  | l, [.bl b], _ => (bools? l).bind fun bs => (bs.findIdx? (· == b)).map fun j => .int (j : Nat)
  | _, _, _ => none
theorem flat_bools (bs : List Bool) : (bs.map V.bl).all flatV = true := by
  rw [List.all_map]; exact List.all_eq_true.mpr fun _ _ => rfl
theorem eqV_bl (a b : Bool) : eqV (.bl a) (.bl b) = (a == b) := by cases a <;> cases b <;> rfl
section
variable {o ex : Expr} {apos cpos : Pos} {fo : BW.Env → Store → Res D} {fa : BW.Env → Store → Res (List D)}
theorem de_count (ho : DE X cl W o fo) (ha : DA X cl W [ex] fa) (hbase : attributeBase o "count" X.env (eval o X.env) = eval o X.env := by rfl)
    (hfew : ((backTo cpos (starEach [ex] X.env)).all (fun x => !x.1) && (backToKw cpos (keywordEach [] X.env)).all (fun x => x.1.isSome) && decide (([ex] : List Expr).length + ([] : List Keyword).length + (if ([] : List Keyword).isEmpty then 0 else 1) < 30)) = true := by rfl)
    (hline : (apos.endLine == cpos.line) = true := by rfl) (hs : starEach [ex] X.env = (false, eval ex X.env) :: starEach [] X.env := by rfl) (hplain : (backTo cpos (starEach [] X.env)).any (·.1) = false := by rfl) :
    DE X cl W (.Call (.Attribute o "count" apos) [ex] [] cpos) (fMt gCountT fo fa) := by
  refine PE.imp (pe_bm PySem.F.plainAttrs_list PySem.F.slot_list_count PySem.F.type_list_count mt_count ho ha hbase hfew hline hs hplain) fun σ H Q ⟨w, ρ, S, o, n, p⟩ => ?_
  refine tG.at o n (Post.bind p fun d S1 w1 v H1 e1 o1 r1 p1 => ?_)
  cases d with
  | lst l =>
    obtain ⟨a, vs, rfl, ha, ra⟩ := r1.lst_inv
    refine ⟨.inl ⟨rfl, vs, o1.sqL ha⟩, tG.at o1 (n.mono e1) (Post.bind p1 fun ds S2 w2 us H2 e2 o2 r2 p2 => ?_)⟩
    unfold gCountT at p2
    split at p2
    · rename_i b
      obtain ⟨u, rfl, ru⟩ := ra1 r2
      cases ru
      cases hb : bools? l with
      | none => rw [hb] at p2; exact p2.elim
      | some bs =>
        rw [hb] at p2
        have ev := bools_ra ra hb
        subst ev
        refine ⟨a, bs.map .bl, .bl b, rfl, rfl, (o2.sqL (e2.le.F _ _ ha)), rfl, flat_bools bs, ?_⟩
        rw [List.countP_map, show ((fun z => eqV z (.bl b)) ∘ V.bl) = (· == b) from funext fun z => eqV_bl z b]
        exact p2.here o2 (.int _)
    · exact p2.elim
  | _ => exact p1.elim
theorem de_index (ho : DE X cl W o fo) (ha : DA X cl W [ex] fa) (hbase : attributeBase o "index" X.env (eval o X.env) = eval o X.env := by rfl)
    (hfew : ((backTo cpos (starEach [ex] X.env)).all (fun x => !x.1) && (backToKw cpos (keywordEach [] X.env)).all (fun x => x.1.isSome) && decide (([ex] : List Expr).length + ([] : List Keyword).length + (if ([] : List Keyword).isEmpty then 0 else 1) < 30)) = true := by rfl)
    (hline : (apos.endLine == cpos.line) = true := by rfl) (hs : starEach [ex] X.env = (false, eval ex X.env) :: starEach [] X.env := by rfl) (hplain : (backTo cpos (starEach [] X.env)).any (·.1) = false := by rfl) :
    DE X cl W (.Call (.Attribute o "index" apos) [ex] [] cpos) (fMt gIndexT fo fa) := by
  refine PE.imp (pe_bm PySem.F.plainAttrs_list PySem.F.slot_list_index PySem.F.type_list_index mt_index ho ha hbase hfew hline hs hplain) fun σ H Q ⟨w, ρ, S, o, n, p⟩ => ?_
  refine tG.at o n (Post.bind p fun d S1 w1 v H1 e1 o1 r1 p1 => ?_)
  cases d with
  | lst l =>
    obtain ⟨a, vs, rfl, ha, ra⟩ := r1.lst_inv
    refine ⟨.inl ⟨rfl, vs, o1.sqL ha⟩, tG.at o1 (n.mono e1) (Post.bind p1 fun ds S2 w2 us H2 e2 o2 r2 p2 => ?_)⟩
    unfold gIndexT at p2
    split at p2
    · rename_i b
      obtain ⟨u, rfl, ru⟩ := ra1 r2
      cases ru
      cases hb : bools? l with
      | none => rw [hb] at p2; exact p2.elim
      | some bs =>
        rw [hb] at p2
        have ev := bools_ra ra hb
        subst ev
        cases hj : bs.findIdx? (· == b) with
        | none => simp only [Option.bind_some, hj] at p2; exact p2.elim
        | some j =>
          simp only [Option.bind_some, hj, Option.map_some] at p2
          obtain ⟨hlt, hyes, hno⟩ := List.findIdx?_eq_some_iff_getElem.mp hj
          refine ⟨a, bs.map .bl, .bl b, j, .bl bs[j], rfl, rfl, (o2.sqL (e2.le.F _ _ ha)), rfl, flat_bools bs, by simp [hlt], by rw [eqV_bl]; exact hyes, fun m z' hm hz => ?_, p2.here o2 (.int _)⟩
          rw [List.getElem?_map, List.getElem?_eq_getElem (Nat.lt_trans hm hlt)] at hz
          cases hz
          rw [eqV_bl]
          simpa using hno m hm
    · exact p2.elim
  | _ => exact p1.elim
end
end
end BW
namespace BW
open PySem PySem.Spec PyProof.Rows L2
section
variable {K : PySem.W.Frag} {w : Wd}
theorem RF.look {f : Str} : ∀ {vs : List (Str × V)} {ds : List (Str × D)} {d : D}, RF K w vs ds → ds.lookup f = some d → ∃ v, vs.lookup f = some v ∧ R K w v d
  | _, _, _, .nil, e => by cases e
  | _, _, _, .cons (k := k) (vs := vs) (ds := ds) r t, e => by
    rw [List.lookup_cons] at e ⊢
    cases hk : f == k with
    | true => rw [hk] at e; cases e; exact ⟨_, rfl, r⟩
    | false => rw [hk] at e; exact RF.look t e
theorem RF.lookN {f : Str} : ∀ {vs : List (Str × V)} {ds : List (Str × D)}, RF K w vs ds → ds.lookup f = none → vs.lookup f = none
  | _, _, .nil, _ => rfl
  | _, _, .cons (k := k) r t, e => by
    rw [List.lookup_cons] at e ⊢
    cases hk : f == k with
    | true => rw [hk] at e; cases e
    | false => rw [hk] at e; exact RF.lookN t e
theorem RF.length : ∀ {vs : List (Str × V)} {ds : List (Str × D)}, RF K w vs ds → vs.length = ds.length
  | _, _, .nil => rfl
  | _, _, .cons _ t => by simp [RF.length t]
def putFD (f : Str) (v : D) : List (Str × D) → List (Str × D)
  | [] => [(f, v)]
  | (g, x) :: r => if g = f then (g, v) :: r else (g, x) :: putFD f v r
theorem RF.put {f : Str} {v : V} {d : D} (h : R K w v d) : ∀ {vs : List (Str × V)} {ds : List (Str × D)}, RF K w vs ds → RF K w (putF f v vs) (putFD f d ds)
  | _, _, .nil => .cons h .nil
  | _, _, .cons (k := k) r t => by
    unfold putF putFD
    split
    · exact .cons h t
    · exact .cons r (RF.put h t)
theorem Ok.put {cl : Str → Addr} {S : Store} {H : Hp} {i : Nat} {c c' : Cell} {o : HO} (k : Ok K cl w S H) (hi : S[i]? = some c) (nz : ∀ q u, H (w.k i) ≠ some (.frz q u)) (new : CellOk K cl w (upd H (w.k i) o) (w.k i) c') : Ok K cl w (S.set i c') (upd H (w.k i) o) ∧ Ext w H w (upd H (w.k i) o) := by
  have il : i < S.length := (List.getElem?_eq_some_iff.mp hi).1
  have iw : i < w.n := by rw [k.len]; exact il
  obtain ⟨nf, co⟩ := k.cell i c hi
  refine ⟨⟨by simp [k.len], fun a u e => ?_, fun j d hj => ?_, k.inj⟩, ⟨Nat.le_refl _, fun _ _ => rfl, Same.refl _, fun a u e hk => ?_, fun a u e => ?_, fun a u e => .inl e, fun j h1 h2 => absurd (Nat.lt_of_lt_of_le h2 h1) (Nat.lt_irrefl _), fun a q u e => by rw [upd_ne (fun z => nz q u (by rw [← z]; exact e))]; exact e⟩⟩
  · have : a ≠ w.k i := fun z => by rw [z, nf] at e; cases e
    rw [upd_ne this]; exact k.sub a u e
  · by_cases e : j = i
    · subst e
      rw [List.getElem?_set_self il] at hj
      cases hj
      exact ⟨nf, new⟩
    · rw [List.getElem?_set_ne (Ne.symm e)] at hj
      obtain ⟨nf', co'⟩ := k.cell j d hj
      have jl : j < S.length := (List.getElem?_eq_some_iff.mp hj).1
      have ne : w.k j ≠ w.k i := fun z => e (k.inj j i (by rw [k.len]; exact jl) iw z)
      exact ⟨nf', co'.mono (Le.refl _) fun u hu => by rw [upd_ne ne]; exact hu⟩
  · rw [upd_ne (Ne.symm (hk i iw))]; exact e
  · by_cases z : a = w.k i
    · subst z; exact ⟨_, upd_same⟩
    · exact ⟨u, by rw [upd_ne z]; exact e⟩
end
/-- a class of the text, its instances' fields -/
structure ClsOk (K : PySem.W.Frag) (cl : Str → Addr) (c : Str) (fs : List Str) : Prop where
  cls : Cls K (cl c)
  no : ∀ f ∈ fs, NoAttr K (cl c) f
def insAt (c : Str) (d : D) (S : Store) : Option (Nat × List (Str × D)) := match d with
  | .ref i => match S[i]? with
    | some (.ins c' fs) => if c' = c then some (i, fs) else none
    | _ => none
  | _ => none
theorem insAt_inv {c : Str} {d : D} {S : Store} {i : Nat} {fs : List (Str × D)} (h : insAt c d S = some (i, fs)) : d = .ref i ∧ S[i]? = some (.ins c fs) := by
  unfold insAt at h
  split at h
  · split at h
    · split at h
      · rename_i e
        cases h
        subst e
        exact ⟨rfl, by assumption⟩
      · cases h
    · cases h
  · cases h
def fFld (c f : Str) (fo : BW.Env → Store → Res D) : BW.Env → Store → Res D := fun ρ S => (fo ρ S).bind fun d S1 => match insAt c d S1 with
  | some (_, fs) => Res.of S1 (fs.lookup f)
  | none => .bad
def sFldSet (c f : Str) (fo fv : BW.Env → Store → Res D) : Stm := fun ρ S => Out.of (fv ρ S) ρ fun y S1 => Out.of (fo ρ S1) ρ fun d S2 => match insAt c d S2 with
  | some (i, fs) => if fs.length < 1000 then .next ρ (S2.set i (.ins c (putFD f y fs))) else .bad
  | none => .bad
def fMeth (c mn : Str) (n : Nat) (m : List D → Store → Res D) (fo : BW.Env → Store → Res D) (fa : BW.Env → Store → Res (List D)) : BW.Env → Store → Res D := fun ρ S => (fo ρ S).bind fun d S1 => match insAt c d S1 with
  | some (_, fs) => if fs.lookup mn = none then (fa ρ S1).bind fun ds S2 => if (d :: ds).length = n then m (d :: ds) S2 else .bad else .bad
  | none => .bad
structure DfM (P : Program) (w : World) (K : PySem.W.Frag) (mg : Str → Option Value) (base : Heap) (cl : Str → Addr) (k : Nat) (c mn : Str) (ps : List Str) (m : List D → Store → Res D) : Prop where
  ex : ∃ f fd, FnOk P w K mg base (L2.CX P w) k f fd ps (spM K cl ps.length m) ∧ Meth K (cl c) mn f ∧ Binds K fd ps []
section
variable {X : Cx} {cl : Str → Addr} {W : WX} {e : Pt}
theorem de_fld {c f : Str} {fs : List Str} {ex : Expr} {pos : Pos} {fo : BW.Env → Store → Res D} (C : ClsOk X.K cl c fs) (hf : f ∈ fs) (h : DE X cl W ex fo) (hb : attributeBase ex f X.env (eval ex X.env) = eval ex X.env := by rfl) : DE X cl W (.Attribute ex f pos) (fFld c f fo) := by
  refine PE.imp (pe_fld h hb) fun σ H Q ⟨w, ρ, S, o, n, p⟩ => tG.at o n (Post.bind p fun d S1 w1 v H1 e1 o1 r1 p1 => ?_)
  split at p1
  · rename_i i gs hi
    obtain ⟨rfl, hs⟩ := insAt_inv hi
    obtain ⟨rfl, _⟩ := r1.ref_inv
    obtain ⟨_, dx, vs, ha, rf⟩ := o1.cell i _ hs
    cases hl : gs.lookup f with
    | none => rw [hl] at p1; exact p1.elim
    | some d =>
      rw [hl] at p1
      obtain ⟨u, hu, ru⟩ := rf.look hl
      exact ⟨_, _, dx, vs, u, rfl, ha, C.cls, C.no f hf, hu, p1.here o1 ru⟩
  · exact p1.elim
theorem ds_fld {c f : Str} {fs : List Str} {o v : Expr} {p1 pos : Pos} {fo fv : BW.Env → Store → Res D} (C : ClsOk X.K cl c fs) (hf : f ∈ fs) (ho : DE X cl W o fo) (hv : DE X cl W v fv) (hs : swapsWith v (some (.Attribute o f p1)) pos.line X.env = pure false := by rfl) :
    DS X cl e W (.Assign [.Attribute o f p1] v pos) (sFldSet c f fo fv) := by
  refine PS.imp (ps_fld ho hv hs) fun Z σ H ⟨w, ρ, S, fs0, p⟩ => ?_
  refine fs0.tG (PostS.expr p fs0 fun y S1 w1 u H1 e1 f1 r1 p1 => f1.tG (PostS.expr p1 f1 fun d S2 w2 x H2 e2 f2 r2 p2 => ?_))
  split at p2
  · rename_i i gs hi
    split at p2
    · rename_i hlen
      obtain ⟨rfl, hs2⟩ := insAt_inv hi
      obtain ⟨rfl, _⟩ := r2.ref_inv
      obtain ⟨_, dx, vs, ha, rf⟩ := f2.ok.cell i _ hs2
      refine ⟨_, _, dx, vs, rfl, ha, C.cls, C.no f hf, by rw [rf.length]; exact hlen, ?_⟩
      obtain ⟨o3, e3⟩ := f2.ok.put (c' := .ins c (putFD f y gs)) (o := .ins (cl c) dx (putF f u vs)) hs2 (fun q z e => by rw [ha] at e; cases e) ⟨dx, _, upd_same, rf.put (r1.mono e2.le)⟩
      exact p2 w2 σ _ (Le.refl _) (f2.on e3 o3)
    · exact p2.elim
  · exact p2.elim
theorem pe_methT {pl : Sem Bool} {k : Nat} {f C : Addr} {fd : FuncData} {ps : List Str} {sp : Sp} {E : L2.St → XK} {m : Str} {pos apos : Pos} {ex o : Expr} {es : List Expr} {ta : TE} {t : TA} (he : PE X o ta) (c : Cls X.K C) (hm : Meth X.K C m f) (F : FnOk X.prog X.w X.K X.mg X.base (L2.CX X.prog X.w) k f fd ps sp) (hr : Room k X.A) (hb : Binds X.K fd ps []) (hx : ∀ σ, PassesAt (L2.CX X.prog X.w) X σ (E σ)) (ha : PA X (ex :: es) t)
    (hst : starEach (ex :: es) X.env = (false, eval ex X.env) :: starEach es X.env) (hpl : (backTo pos (starEach es X.env)).any (·.1) = false)
    (ht : eval (.Call (.Attribute o m apos) (ex :: es) [] pos) X.env = (do
      let ov ← eval o X.env
      standAt apos.atName
      let (f, first) ← holding [ov] (getMethod ov m pl)
      callWith pos f first (backTo pos (starEach (ex :: es) X.env)) (backToKw pos (keywordEach [] X.env)))) :
    PE X (.Call (.Attribute o m apos) (ex :: es) [] pos) (L2H.tMethH C m sp E ta t) := by
  refine ⟨fun pins s σ H Q I h => PySem.W.methodCall_KW (pl := pl) (thn (he.run pins s σ H _ I h) fun u s1 got => ?_) ht⟩
  obtain ⟨x, H1, I1, rx, a, dx, fs, rfl, ea, l, q⟩ := got
  obtain rfl : u = Value.ref a := rx
  refine getmeth_ok I1 ea c hm l (PySem.W.callWith_K (first := [.ref a]) (h₀ := X.base) I.ok.mod.kin hm.kp (thn (ha.run pos pins s1 σ H1 _ I1 q) fun us s2 got2 => ?_) hst hpl)
  obtain ⟨vs, H2, I2, r, q2⟩ := got2
  exact ⟨I2.kIn, run_fnSD (ds := []) (dvs := []) (us := .ref a :: us) (vs := .ref a :: vs) (E := E) F hr hb .nil (hx σ) I2 (.cons rfl r) (by rw [List.append_nil]; exact q2)⟩
theorem pe_methT0 {pl : Sem Bool} {k : Nat} {f C : Addr} {fd : FuncData} {ps : List Str} {sp : Sp} {E : L2.St → XK} {m : Str} {pos apos : Pos} {o : Expr} {ta : TE} (he : PE X o ta) (c : Cls X.K C) (hm : Meth X.K C m f) (F : FnOk X.prog X.w X.K X.mg X.base (L2.CX X.prog X.w) k f fd ps sp) (hr : Room k X.A) (hb : Binds X.K fd ps []) (hx : ∀ σ, PassesAt (L2.CX X.prog X.w) X σ (E σ))
    (ht : eval (.Call (.Attribute o m apos) [] [] pos) X.env = (do
      let ov ← eval o X.env
      standAt apos.atName
      let (f, first) ← holding [ov] (getMethod ov m pl)
      callWith pos f first (backTo pos (starEach [] X.env)) (backToKw pos (keywordEach [] X.env)))) :
    PE X (.Call (.Attribute o m apos) [] [] pos) (L2H.tMethH C m sp E ta tNil) := by
  refine ⟨fun pins s σ H Q I h => PySem.W.methodCall_KW (pl := pl) (thn (he.run pins s σ H _ I h) fun u s1 got => ?_) ht⟩
  obtain ⟨x, H1, I1, rx, a, dx, fs, rfl, ea, l, q⟩ := got
  obtain rfl : u = Value.ref a := rx
  refine getmeth_ok I1 ea c hm l (PySem.W.callWith_K0 (first := [.ref a]) I1.kIn hm.kp ?_)
  exact run_fnSD (ds := []) (dvs := []) (us := [.ref a]) (vs := [.ref a]) (E := E) F hr hb .nil (hx σ) I1 (.cons rfl .nil) (by rw [List.append_nil]; exact q)
theorem de_meth {pl : Sem Bool} {k j n : Nat} {c m : Str} {fs ps : List Str} {mm : List D → Store → Res D} {pos apos : Pos} {ex o : Expr} {es : List Expr} {fo : BW.Env → Store → Res D} {fa : BW.Env → Store → Res (List D)} (G : DfM X.prog X.w X.K X.mg X.base cl k c m ps mm) (C : ClsOk X.K cl c fs) (hr : Room j X.A) (hj : k ≤ j) (tk : Takes X W) (ho : DE X cl W o fo) (ha : DA X cl W (ex :: es) fa) (hn : ps.length = n := by rfl)
    (hst : starEach (ex :: es) X.env = (false, eval ex X.env) :: starEach es X.env := by rfl) (hpl : (backTo pos (starEach es X.env)).any (·.1) = false := by rfl)
    (ht : eval (.Call (.Attribute o m apos) (ex :: es) [] pos) X.env = (do
      let ov ← eval o X.env
      standAt apos.atName
      let (f, first) ← holding [ov] (getMethod ov m pl)
      callWith pos f first (backTo pos (starEach (ex :: es) X.env)) (backToKw pos (keywordEach [] X.env))) := by rfl) :
    DE X cl W (.Call (.Attribute o m apos) (ex :: es) [] pos) (fMeth c m n mm fo fa) := by
  subst hn
  obtain ⟨f, fd, F, hm, hb⟩ := G.ex
  refine PE.imp (pe_methT ho C.cls hm F (hr.mono hj) hb (fun σ => passAt tk σ) ha hst hpl ht) fun σ H Q ⟨w, ρ, S, o, n, p⟩ => tG.at o n (Post.bind p fun d S1 w1 v H1 e1 o1 r1 p1 => ?_)
  split at p1
  · rename_i i gs hi
    split at p1
    · rename_i hl
      obtain ⟨rfl, hs⟩ := insAt_inv hi
      obtain ⟨rfl, _⟩ := r1.ref_inv
      obtain ⟨_, dx, vs, hc, rf⟩ := o1.cell i _ hs
      refine ⟨_, dx, vs, rfl, hc, rf.lookN hl, tG.at o1 (n.mono e1) (Post.bind p1 fun ds S2 w2 us H2 e2 o2 r2 p2 => ?_)⟩
      split at p2
      · rename_i hlen
        exact ⟨w2, S2, _, o2, .cons (r1.mono e2.le) r2, hlen, Post.w p2 fun _ _ z => z⟩
      · exact p2.elim
    · exact p1.elim
  · exact p1.elim
theorem de_meth0 {pl : Sem Bool} {k j n : Nat} {c m : Str} {fs ps : List Str} {mm : List D → Store → Res D} {pos apos : Pos} {o : Expr} {fo : BW.Env → Store → Res D} (G : DfM X.prog X.w X.K X.mg X.base cl k c m ps mm) (C : ClsOk X.K cl c fs) (hr : Room j X.A) (hj : k ≤ j) (tk : Takes X W) (ho : DE X cl W o fo) (hn : ps.length = n := by rfl)
    (ht : eval (.Call (.Attribute o m apos) [] [] pos) X.env = (do
      let ov ← eval o X.env
      standAt apos.atName
      let (f, first) ← holding [ov] (getMethod ov m pl)
      callWith pos f first (backTo pos (starEach [] X.env)) (backToKw pos (keywordEach [] X.env))) := by rfl) :
    DE X cl W (.Call (.Attribute o m apos) [] [] pos) (fMeth c m n mm fo fNil) := by
  subst hn
  obtain ⟨f, fd, F, hm, hb⟩ := G.ex
  refine PE.imp (pe_methT0 ho C.cls hm F (hr.mono hj) hb (fun σ => passAt tk σ) ht) fun σ H Q ⟨w, ρ, S, o, n, p⟩ => tG.at o n (Post.bind p fun d S1 w1 v H1 e1 o1 r1 p1 => ?_)
  split at p1
  · rename_i i gs hi
    split at p1
    · rename_i hl
      obtain ⟨rfl, hs⟩ := insAt_inv hi
      obtain ⟨rfl, _⟩ := r1.ref_inv
      obtain ⟨_, dx, vs, hc, rf⟩ := o1.cell i _ hs
      refine ⟨_, dx, vs, rfl, hc, rf.lookN hl, ?_⟩
      unfold fNil at p1
      simp only [bind_ok] at p1
      split at p1
      · rename_i hlen
        exact ⟨w1, S1, _, o1, .cons r1 .nil, hlen, Post.w p1 fun _ _ z => z⟩
      · exact p1.elim
    · exact p1.elim
  · exact p1.elim
end
end BW
namespace BW
open PySem PySem.Spec PyProof.Rows L2
section
variable {X : Cx} {cl : Str → Addr} {W : WX} {e : Pt}
def gInX (neg : Bool) : D → D → Store → Option D := fun d x S => match x with
  | .dic kvs => (keyD d).map fun k => .bl (xor neg (valD kvs k).isSome)
  | .ref n => match S[n]? with
    | some (.dic kvs) => (keyD d).map fun k => .bl (xor neg (valD kvs k).isSome)
    | some (.dicL kvs) => (keyD d).map fun k => .bl (xor neg (valD kvs k).isSome)
    | _ => none
  | x => gIn neg d x S
theorem op_din (hu : X.A.units + 1 < cLine) : OpR X (compareOp .In) (fun y x H Q => ∃ a o, x = .ref a ∧ DGet H a y o ∧ Q (.bl o.isSome) H) := by
  intro pins s σ H y x u v Q I ry rx ⟨a, o, ex, g, q⟩
  subst ex
  cases rx
  exact d_in hu I g ry fun s' I' => ⟨.bl o.isSome, H, I', rfl, q⟩
theorem op_dnotin (hu : X.A.units + 1 < cLine) : OpR X (compareOp .NotIn) (fun y x H Q => ∃ a o, x = .ref a ∧ DGet H a y o ∧ Q (.bl (!o.isSome)) H) := by
  intro pins s σ H y x u v Q I ry rx ⟨a, o, ex, g, q⟩
  subst ex
  cases rx
  exact d_notIn hu I g ry fun s' I' => ⟨.bl (!o.isSome), H, I', rfl, q⟩
theorem RK.isSome {K : PySem.W.Frag} {w : Wd} {vs : List (Key × V)} {ds : List (Key × D)} (k : Key) (r : RK K w vs ds) : (valV vs k).isSome = (valD ds k).isSome := by
  rcases r.val (k := k) with ⟨h1, h2⟩ | ⟨v, d, h1, h2, _⟩ <;> rw [h1, h2] <;> rfl
/-- reading a dict: its keys -/
theorem dget_of {w : Wd} {S : Store} {H : Hp} {v u : V} {d x z : D} {neg : Bool} (k : Ok X.K cl w S H) (r1 : R X.K w v d) (r2 : R X.K w u x) (hg : gInX neg d x S = some z) (hx : (∃ l, x = .dic l) ∨ ∃ n, x = .ref n) : ∃ a o, u = .ref a ∧ DGet H a v o ∧ z = .bl (xor neg o.isSome) := by
  rcases hx with ⟨l, rfl⟩ | ⟨n, rfl⟩
  · obtain ⟨a, vs, rfl, ha, ra⟩ := r2.dic_inv
    simp only [gInX, Option.map_eq_some_iff] at hg
    obtain ⟨key, hk, rfl⟩ := hg
    refine ⟨a, valV vs key, rfl, .inl ⟨vs, key, Rd.mono k.sub ha, keyD_v r1 hk, rfl⟩, ?_⟩
    rw [ra.isSome]
  · obtain ⟨rfl, hn⟩ := r2.ref_inv
    simp only [gInX] at hg
    split at hg
    · rename_i l hl
      obtain ⟨_, vs, hc, ra⟩ := k.cell n _ hl
      simp only [Option.map_eq_some_iff] at hg
      obtain ⟨key, hk, rfl⟩ := hg
      refine ⟨_, valV vs key, rfl, .inl ⟨vs, key, .inl hc, keyD_v r1 hk, rfl⟩, ?_⟩
      rw [ra.isSome]
    · rename_i l hl
      obtain ⟨_, o, vs, hc, ra⟩ := k.cell n _ hl
      simp only [Option.map_eq_some_iff] at hg
      obtain ⟨key, hk, rfl⟩ := hg
      refine ⟨_, valV vs key, rfl, .inl ⟨vs, key, .inr ⟨o, hc⟩, keyD_v r1 hk, rfl⟩, ?_⟩
      rw [ra.isSome]
    · cases hg
theorem gInX_old {neg : Bool} {d x : D} {S : Store} (h1 : ∀ l, x ≠ .dic l) (h2 : ∀ n, x ≠ .ref n) : gInX neg d x S = gIn neg d x S := by
  cases x <;> first | rfl | exact absurd rfl (h1 _) | exact absurd rfl (h2 _)
theorem o_inX (hu : X.A.units + 65 < cLine) : OpR X (compareOp .In) (r2 X.K cl (gInX false)) := by
  refine of2 (OpR.or (o_in (cl := cl) hu) (op_din (by omega))) fun x y H Q w S d e z k r1 r2 hg q => ?_
  by_cases h : (∃ l, e = .dic l) ∨ ∃ n, e = .ref n
  · obtain ⟨a, o, rfl, g, rfl⟩ := dget_of k r1 r2 hg h
    refine .inr ⟨a, o, rfl, g, ?_⟩
    have := q w _ H (Ext.refl _ _) k (.bl _)
    simpa using this
  · rw [gInX_old (fun l z => h (.inl ⟨l, z⟩)) fun n z => h (.inr ⟨n, z⟩)] at hg
    exact .inl ⟨w, S, d, e, z, k, r1, r2, hg, q⟩
theorem o_notinX (hu : X.A.units + 65 < cLine) : OpR X (compareOp .NotIn) (r2 X.K cl (gInX true)) := by
  refine of2 (OpR.or (o_notin (cl := cl) hu) (op_dnotin (by omega))) fun x y H Q w S d e z k r1 r2 hg q => ?_
  by_cases h : (∃ l, e = .dic l) ∨ ∃ n, e = .ref n
  · obtain ⟨a, o, rfl, g, rfl⟩ := dget_of k r1 r2 hg h
    refine .inr ⟨a, o, rfl, g, ?_⟩
    have := q w _ H (Ext.refl _ _) k (.bl _)
    simpa using this
  · rw [gInX_old (fun l z => h (.inl ⟨l, z⟩)) fun n z => h (.inr ⟨n, z⟩)] at hg
    exact .inl ⟨w, S, d, e, z, k, r1, r2, hg, q⟩
/-- what an expression gives, locked for good -/
theorem PE.lkA {ex : Expr} {t : TE} (h : PE X ex t) : PE X ex (fun σ H Q => t σ H fun v H' => ∃ d u, H' d = some u ∧ Mut (some u) ∧ ∀ od, Q v (upd H' d (.frz od u))) := ⟨fun pins s σ H Q I q => thn (h.run pins s σ H _ I q) fun u s1 ⟨x, H1, I1, r, d, o, hd, mu, q1⟩ => by
  obtain ⟨od, I2⟩ := I1.lock hd mu
  exact ⟨x, _, I2, r, q1 od⟩⟩
theorem upd_upd (H : Hp) (a : Addr) (o o' : HO) : upd (upd H a o) a o' = upd H a o' := by
  funext b
  by_cases h : b = a
  · subst h; rw [upd_same, upd_same]
  · rw [upd_ne h, upd_ne h, upd_ne h]
theorem de_dic0 {pos : Pos} : DE X cl W (.Dict [] [] pos) (fC (.dic [])) := by
  refine PE.imp (PE.lkA pe_dnewK) fun σ H Q ⟨w, ρ, S, o, n, p⟩ q hq => ⟨q, _, upd_same, trivial, fun od => ?_⟩
  rw [upd_upd]
  obtain ⟨e1, o1, r1⟩ := o.layD (q := od) hq .nil
  exact p.okT e1 o1 r1
/-- an own dict, just made -/
def PostD (K : PySem.W.Frag) (cl : Str → Addr) (W : WX) (σ : L2.St) (w : Wd) (H : Hp) (r : Res (List (Key × D))) (Q : VK) : Prop := match r with
  | .ok l S' => ∀ w' a vs H', Ext w H w' H' → Ok K cl w' S' H' → H a = none → H' a = some (.dK vs) → Hid w' a → RK K w' vs l → Q (.ref a) H'
  | .err c S' => ∀ w' H', Ext w H w' H' → Ok K cl w' S' H' → W (.ref (cl c)) none σ H'
  | .bad => False
abbrev DDc (X : Cx) (cl : Str → Addr) (W : WX) (ex : Expr) (f : BW.Env → Store → Res (List (Key × D))) : Prop := PE X ex (fun σ H Q => ∃ w ρ S, Ok X.K cl w S H ∧ EnvR X.K w H σ ρ ∧ PostD X.K cl W σ w H (f ρ S) Q)
def fDict (fa : BW.Env → Store → Res (List D)) : BW.Env → Store → Res (List (Key × D)) := fun ρ S => (fa ρ S).bind fun ds S1 => match ds with
  | [.dic l] => .ok l S1
  | _ => .bad
theorem PostD.bind {K : PySem.W.Frag} {α β : Type} {Rl : Wd → β → α → Prop} {σ : L2.St} {w : Wd} {H : Hp} {r : Res α} {k : α → Store → Res (List (Key × D))} {Q : VK} {Q1 : β → Hp → Prop} (h : PostD K cl W σ w H (r.bind k) Q)
    (hk : ∀ d S1 w1 v H1, Ext w H w1 H1 → Ok K cl w1 S1 H1 → Rl w1 v d → PostD K cl W σ w H (k d S1) Q → Q1 v H1) : Post K cl W σ Rl w H r Q1 := by
  cases r with
  | ok d S => exact fun w1 v H1 e1 o1 r1 => hk d S w1 v H1 e1 o1 r1 h
  | err c S => exact h
  | bad => exact h
theorem dd_dict {p pos : Pos} {a : Expr} {fa : BW.Env → Store → Res (List D)} (ha : DA X cl W [a] fa) (hg : Gl X "dict") (hm : X.mg "dict" = none) (he : starEach [a] X.env = (false, eval a X.env) :: starEach [] X.env := by rfl) (hpl : (backTo pos (starEach [] X.env)).any (·.1) = false := by rfl) :
    DDc X cl W (.Call (.Name "dict" p) [a] [] pos) (fDict fa) := by
  refine PE.imp (pe_callTy call_dictD hg hm (by decide +kernel) ha (he := he) (hpl := hpl)) fun σ H Q ⟨w, ρ, S, o, n, p⟩ => ?_
  refine tG.at o n (PostD.bind p fun ds S1 w1 xs H1 e1 o1 r1 p1 => ?_)
  split at p1
  · obtain ⟨v, rfl, rv⟩ := ra1 r1
    obtain ⟨a, vs, rfl, h1, h2⟩ := rv.dic_inv
    refine ⟨a, vs, rfl, Rd.mono o1.sub h1, fun q hq => ?_⟩
    exact p1 w1 q vs _ (e1.trans ((Ext.refl _ _).mut hq)) (o1.mut (o1.hid hq)) (e1.back hq) upd_same (o1.hid hq) h2
  · exact p1.elim
def sSetOwnD (i : Nat) (f : BW.Env → Store → Res (List (Key × D))) : Stm := fun ρ S => Out.of (f ρ S) ρ fun l S1 => .next (ρ.set i (some (.ownd l))) S1
theorem ds_setOwnD {i : Nat} {x : Str} {ex : Expr} {pos pos' : Pos} {f : BW.Env → Store → Res (List (Key × D))} (hN : X.N.Nodup) (hi : X.N[i]? = some x) (hx : Loc X.env.scope x) (h : DDc X cl W ex f) (hs : swapsWith ex (some (.Name x pos')) pos.line X.env = pure false := by rfl)
    (hf : X.fn x = true ∨ X.env.scope.names.lookup x = some .local := by first | exact .inl rfl | exact .inr rfl | assumption) : DS X cl e W (.Assign [.Name x pos'] ex pos) (sSetOwnD i f) := by
  refine PS.imp (ps_set hN hi hx h hs hf) fun Z σ H ⟨w, ρ, S, fs, p⟩ => ⟨w, ρ, S, fs.ok, fs.env, ?_⟩
  unfold sSetOwnD at p
  cases hf : f ρ S with
  | bad => simp only [hf, Out.of] at p; exact p
  | err c S1 => simp only [hf, Out.of] at p; exact fun w' H' x o => p w' σ H' x.le (fs.on x o)
  | ok l S1 =>
    simp only [hf, Out.of] at p
    intro w1 a vs H1 e1 o1 ha h1 hid ra
    refine p w1 _ H1 e1.le ((fs.on e1 o1).setOwn rfl ⟨a, vs, rfl, h1, ra, hid⟩ (fs.ext.back ha) fun j t hj ht hji hv => ?_)
    obtain ⟨v, hv', so⟩ := fs.env.slot j t hj
    rw [hv] at hv'
    cases hv'
    cases t with
    | dat d => cases ht
    | adr a => cases ht
    | own l2 => obtain ⟨b, us, eb, hb, _⟩ := so; cases eb; rw [ha] at hb; cases hb
    | ownd l2 => obtain ⟨b, us, eb, hb, _⟩ := so; cases eb; rw [ha] at hb; cases hb
def sPutOwnD (i : Nat) (fb fe : BW.Env → Store → Res D) : Stm := fun ρ S => Out.of (fe ρ S) ρ fun d S1 => match ρ[i]? with
  | some (some (.ownd l)) => Out.of (fb ρ S1) ρ fun b S2 => match keyD b with
    | some k => if l.length < LIM then .next (ρ.set i (some (.ownd (putD l k d)))) S2 else .bad
    | none => .bad
  | _ => .bad
theorem ds_putOwnD {i : Nat} {x : Str} {p tpos pos : Pos} {b ex : Expr} {fb fe : BW.Env → Store → Res D} (hu : X.A.units + 1 < cLine) (hv : PE X (.Name x p) (tVar i)) (hb : DE X cl W b fb) (he : DE X cl W ex fe) (hs : swapsWith ex (some (.Subscript (.Name x p) b tpos)) pos.line X.env = pure false := by rfl) :
    DS X cl e W (.Assign [.Subscript (.Name x p) b tpos] ex pos) (sPutOwnD i fb fe) := by
  refine PS.imp (ps_dput hu hv hb he hs) fun Z σ H ⟨w, ρ, S, fs, q⟩ => fs.tG (PostS.expr q fs fun d S1 w1 v H1 e1 f1 r1 p1 => ?_)
  split at p1
  · rename_i l hl
    obtain ⟨u, hu, a, vs, rfl, ha, ra, hid⟩ := f1.env.slot i _ hl
    refine ⟨_, hu, f1.tG (PostS.expr p1 f1 fun b S2 w2 y H2 e2 f2 r2 p2 => ?_)⟩
    have ha2 := e2.keep a _ ha hid.nK
    have hid2 := hid.mono e2 ha
    split at p2
    · rename_i k hk
      split at p2
      · rename_i hlt
        refine ⟨a, _, rfl, .inl ⟨vs, k, ha2, keyD_v r2 hk, lim_lt (by rw [ra.length]; exact hlt), rfl⟩, ?_⟩
        exact p2 w2 σ _ (Le.refl _) (f2.mutOwn hl rfl hu hid2 rfl ⟨a, _, rfl, upd_same, RK.put (r1.mono e2.le) (ra.mono e2.le), hid2⟩)
      · exact p2.elim
    · exact p2.elim
  · exact p1.elim
end
end BW
namespace BW
open PySem PySem.Spec PyProof.Rows L2
def Wd.new (w : Wd) (x : Addr) : Wd := { n := w.n + 1, k := fun i => if i = w.n then x else w.k i, F := w.F }
section
variable {K : PySem.W.Frag} {cl : Str → Addr} {w : Wd} {S : Store} {H : Hp}
theorem Le.new (w : Wd) (x : Addr) : Le w (w.new x) := ⟨Nat.le_succ _, fun i hi => by show (if i = w.n then x else w.k i) = _; rw [if_neg (Nat.ne_of_lt hi)], Same.refl _⟩
theorem Ok.made {c : Str} {x dx : Addr} (k : Ok K cl w S H) (hx : H x = none) (hd : H dx = none) (ne : dx ≠ x) :
    Ext w H (w.new x) (upd (upd H dx (.own x)) x (.ins (cl c) dx [])) ∧ Ok K cl (w.new x) (S ++ [.ins c []]) (upd (upd H dx (.own x)) x (.ins (cl c) dx [])) := by
  have old : ∀ a o, H a = some o → upd (upd H dx (.own x)) x (.ins (cl c) dx []) a = some o := fun a o e => by
    rw [upd_ne (ne_of_none e hx), upd_ne (ne_of_none e hd)]; exact e
  have kx : ∀ i, i < w.n → w.k i ≠ x := fun i hi z => by
    obtain ⟨c', hc⟩ : ∃ c', S[i]? = some c' := ⟨S[i]'(by rw [← k.len]; exact hi), by simp [← k.len, hi]⟩
    obtain ⟨o, ho⟩ := (k.cell i _ hc).2.there
    rw [z, hx] at ho; cases ho
  refine ⟨⟨(Le.new w x).n, (Le.new w x).k, Same.refl _, fun a o e _ => old a o e, fun a o e => ⟨o, old a o e⟩, fun a o e => .inl e, fun i h1 h2 => ?_, fun a q u e => old a _ e⟩, ⟨?_, fun a o e => ?_, fun i c' hi => ?_, fun i j hi hj e => ?_⟩⟩
  · have h3 : i < w.n + 1 := h2
    have : i = w.n := by omega
    subst this
    show H (if w.n = w.n then x else _) = none
    rw [if_pos rfl]; exact hx
  · show w.n + 1 = _
    simp [k.len]
  · exact old a o (k.sub a o e)
  · by_cases q : i < S.length
    · rw [List.getElem?_append_left q] at hi
      obtain ⟨h1, h2⟩ := k.cell i c' hi
      have e : (w.new x).k i = w.k i := (Le.new w x).k i (by rw [k.len]; exact q)
      rw [e]
      exact ⟨h1, h2.mono (Le.new w x) fun o ho => old _ o ho⟩
    · have il : i = S.length := by
        have := (List.getElem?_eq_some_iff.mp hi).1
        simp at this
        omega
      subst il
      rw [List.getElem?_append_right (Nat.le_refl _), Nat.sub_self] at hi
      cases hi
      have e : (w.new x).k S.length = x := by
        show (if S.length = w.n then x else _) = x
        rw [if_pos k.len.symm]
      rw [e]
      refine ⟨?_, dx, [], upd_same, .nil⟩
      cases hF : w.F x with
      | none => exact hF
      | some o => rw [k.sub _ _ hF] at hx; cases hx
  · have hi' : i < w.n + 1 := hi
    have hj' : j < w.n + 1 := hj
    have e' : (if i = w.n then x else w.k i) = (if j = w.n then x else w.k j) := e
    by_cases a : i = w.n <;> by_cases b : j = w.n
    · omega
    · rw [if_pos a, if_neg b] at e'
      exact absurd e'.symm (kx j (by omega))
    · rw [if_neg a, if_pos b] at e'
      exact absurd e' (kx i (by omega))
    · rw [if_neg a, if_neg b] at e'
      exact k.inj i j (by omega) (by omega) e'
end
section
variable {X : Cx} {cl : Str → Addr} {W : WX} {e : Pt}
structure DfC (P : Program) (w : World) (K : PySem.W.Frag) (mg : Str → Option Value) (base : Heap) (cl : Str → Addr) (k : Nat) (c : Str) (ps : List Str) (m : List D → Store → Res D) : Prop where
  ex : ∃ f fd, Mk K (cl c) f ∧ FnOk P w K mg base (L2.CX P w) k f fd ps (spM K cl ps.length m) ∧ mg c = some (.ref (cl c)) ∧ Binds K fd ps []
def fMake (c : Str) (n : Nat) (m : List D → Store → Res D) (fa : BW.Env → Store → Res (List D)) : BW.Env → Store → Res D := fun ρ S => (fa ρ S).bind fun ds S1 => if ds.length + 1 = n then (m (.ref S1.length :: ds) (S1 ++ [.ins c []])).bind fun r S2 => (match r with
  | .non => .ok (.ref S1.length) S2
  | _ => .bad) else .bad
theorem run_makeT {k : Nat} {f C : Addr} {fd : FuncData} {ps : List Str} {sp : Sp} {E : XK} {pins : List (Addr × Obj)} {σ : L2.St} {H : Hp} {s : Shared} {Q : VK} {us : List Value} {vs : List V} (M : Mk X.K C f) (F : FnOk X.prog X.w X.K X.mg X.base (L2.CX X.prog X.w) k f fd ps sp) (hr : Room (k + 1) X.A) (hb : Binds X.K fd ps [])
    (hx : PassesAt (L2.CX X.prog X.w) X σ E) (I : Inv X pins σ H s) (r : Vals vs us)
    (want : ∀ x dx, H x = none → H dx = none → dx ≠ x → sp (.ref x :: vs) (upd (upd H dx (.own x)) x (.ins C dx [])) (fun v H2 => v = .non ∧ Q (.ref x) H2) E) : wpAny (model X.prog X.w) X.A (call (.ref C) us) (EP X pins σ Q) X.xe s := by
  have w0 := want (s.heap.objs.size + 1) s.heap.objs.size (I.hok.fresh (Nat.le_succ _)) (I.hok.fresh (Nat.le_refl _)) (Nat.ne_of_lt (Nat.lt_succ_self _))
  have J := Inv.made (C := C) I
  have rel : Vals (V.ref (s.heap.objs.size + 1) :: vs) (Value.ref (s.heap.objs.size + 1) :: us) := .cons rfl r
  have many : (Value.ref (s.heap.objs.size + 1) :: us).length = ps.length := by
    rw [← rel.length]; exact F.len _ _ _ _ w0
  have bt := hb _ (Value.ref (s.heap.objs.size + 1) :: us) J.kIn (by rw [List.append_nil]; exact many)
  rw [List.append_nil] at bt
  have go := F.run _ X.stack _ _ ⟨Value.ref (s.heap.objs.size + 1) :: us, []⟩ _ _ _ E (hr.make C us []) (J.env0.make C us []) bt rel w0
  refine wpAny_call (make_map (f := f) I.kIn M.makes M.init (beq_iff_eq.mp M.fn) (codeAny_mono go fun r s' got => ?_))
  match r, got with
  | .error u, got => exact hx pins _ _ u s' J got
  | .ok (.ret u), got =>
    obtain ⟨v, H', J3, rv, ev, q3⟩ := J.after got
    subst ev
    exact ⟨rv, V.ref (s.heap.objs.size + 1), H', J3, rfl, q3⟩
theorem de_make {k j n : Nat} {c : Str} {ps : List Str} {m : List D → Store → Res D} {p pos : Pos} {ex : Expr} {es : List Expr} {fa : BW.Env → Store → Res (List D)} (G : DfC X.prog X.w X.K X.mg X.base cl k c ps m) (hr : Room j X.A) (hj : k + 1 ≤ j) (hg : Gl X c) (tk : Takes X W) (ha : DA X cl W (ex :: es) fa) (hn : ps.length = n := by rfl)
    (hdb : (c == ("__debug__" : Str)) = false := by decide) (he : starEach (ex :: es) X.env = (false, eval ex X.env) :: starEach es X.env := by rfl) (hpl : (backTo pos (starEach es X.env)).any (·.1) = false := by rfl) :
    DE X cl W (.Call (.Name c p) (ex :: es) [] pos) (fMake c n m fa) := by
  subst hn
  obtain ⟨f, fd, M, F, hm, hb⟩ := G.ex
  refine ⟨fun pins s σ H Q I h => wpAny_Call_Name_kw (ld_glob I hg hm ?_ hdb)⟩
  have hA := ha.run pos pins s σ H (fun vs H1 => ∀ x dx, H1 x = none → H1 dx = none → dx ≠ x → spM X.K cl ps.length m (.ref x :: vs) (upd (upd H1 dx (.own x)) x (.ins (cl c) dx [])) (fun v H2 => v = .non ∧ Q (.ref x) H2) (WE W σ)) I ?_
  · refine PySem.W.callWith_K (h₀ := X.base) I.ok.mod.kin M.kp (thn hA fun us s1 got => ?_) he hpl
    obtain ⟨vs, H1, I1, r, q⟩ := got
    exact ⟨I1.kIn, run_makeT M F (hr.mono hj) hb (passAt tk σ) I1 r q⟩
  · obtain ⟨w, ρ, S, o, n, q⟩ := h
    refine tG.at o n (Post.bind q fun ds S1 w1 vs H1 e1 o1 r1 p1 x dx hx hd ne => ?_)
    split at p1
    · rename_i hl
      obtain ⟨e2, o2⟩ := o1.made (c := c) hx hd ne
      have kx : (w1.new x).k S1.length = x := by
        show (if S1.length = w1.n then x else _) = x
        rw [if_pos o1.len.symm]
      have rx : R X.K (w1.new x) (.ref x) (.ref S1.length) := by
        have := R.ref (K := X.K) (w := w1.new x) (i := S1.length) (by show _ < w1.n + 1; rw [o1.len]; omega)
        rw [kx] at this
        exact this
      refine ⟨w1.new x, S1 ++ [.ins c []], .ref S1.length :: ds, o2, .cons rx (r1.mono e2.le), by simpa using hl, ?_⟩
      cases hmr : m (.ref S1.length :: ds) (S1 ++ [.ins c []]) with
      | bad => rw [hmr] at p1; exact p1
      | err c' S2 => rw [hmr] at p1; exact fun w2 H2 x2 y2 => p1 w2 H2 (e2.trans x2) y2
      | ok d S2 =>
        rw [hmr] at p1
        intro w2 v H2 e3 o3 r3
        cases d with
        | non =>
          cases r3
          exact ⟨rfl, p1 w2 _ H2 (e2.trans e3) o3 (rx.mono e3.le)⟩
        | _ => exact p1.elim
    · exact p1.elim
end
end BW
namespace BW
open PySem PySem.Spec PyProof.Rows L2
abbrev leS (a b : Str) : Prop := a.cps.toList ≤ b.cps.toList
theorem leS_iff (a b : Str) : ltCps b.cps.toList a.cps.toList = false ↔ leS a b := by
  rw [ltCps_eq]
  simp [leS, List.not_lt]
theorem leS_anti {a b : Str} (h1 : leS a b) (h2 : leS b a) : a = b := by
  have e : a.cps.toList = b.cps.toList := List.le_antisymm h1 h2
  cases a; cases b
  simp only at e
  congr 1
  exact Array.ext' e
theorem leS_trans {a b c : Str} (h1 : leS a b) (h2 : leS b c) : leS a c := List.le_trans h1 h2
theorem leS_total (a b : Str) : leS a b ∨ leS b a := List.le_total _ _
theorem rising_pair : ∀ (l : List Str) (p : Str), risingS p l = true → (p :: l).Pairwise leS
  | [], p, _ => by simp
  | x :: l, p, h => by
    simp only [risingS, Bool.and_eq_true, Bool.not_eq_true'] at h
    have px := (leS_iff p x).mp h.1
    have ih := rising_pair l x h.2
    refine List.pairwise_cons.mpr ⟨fun z hz => ?_, ih⟩
    rcases List.mem_cons.mp hz with e | e
    · rw [e]; exact px
    · exact leS_trans px ((List.pairwise_cons.mp ih).1 z e)
theorem sorted_pair {l : List Str} (h : sortedS l = true) : l.Pairwise leS := by
  cases l with
  | nil => exact .nil
  | cons x l => exact rising_pair l x h
theorem perm_eqS : ∀ {a b : List Str}, a.Perm b → a.Pairwise leS → b.Pairwise leS → a = b
  | [], b, p, _, _ => by rw [List.nil_perm.mp p]
  | x :: a, [], p, _, _ => by have := p.length_eq; simp at this
  | x :: a, y :: b, p, ha, hb => by
    obtain ⟨a1, a2⟩ := List.pairwise_cons.mp ha
    obtain ⟨b1, b2⟩ := List.pairwise_cons.mp hb
    have hx : x ∈ y :: b := p.mem_iff.mp List.mem_cons_self
    have hy : y ∈ x :: a := p.mem_iff.mpr List.mem_cons_self
    have e : x = y := by
      rcases List.mem_cons.mp hx with e | e
      · exact e
      · rcases List.mem_cons.mp hy with f | f
        · exact f.symm
        · exact leS_anti (a1 y f) (b1 x e)
    subst e
    rw [perm_eqS ((List.perm_cons x).mp p) a2 b2]
def insS (x : Str) : List Str → List Str
  | [] => [x]
  | y :: l => if ltCps y.cps.toList x.cps.toList = false then x :: y :: l else y :: insS x l
def ssort : List Str → List Str
  | [] => []
  | x :: l => insS x (ssort l)
theorem insS_perm (x : Str) : ∀ l, (insS x l).Perm (x :: l)
  | [] => .refl _
  | y :: l => by
    unfold insS
    split
    · exact .refl _
    · exact ((insS_perm x l).cons y).trans (.swap x y l)
theorem ssort_perm : ∀ l, (ssort l).Perm l
  | [] => .refl _
  | x :: l => (insS_perm x (ssort l)).trans ((ssort_perm l).cons x)
theorem insS_le (x : Str) : ∀ l : List Str, l.Pairwise leS → (insS x l).Pairwise leS
  | [], _ => by simp [insS]
  | y :: l, h => by
    unfold insS
    obtain ⟨h1, h2⟩ := List.pairwise_cons.mp h
    split
    · rename_i hx
      have hx' := (leS_iff x y).mp hx
      exact List.pairwise_cons.mpr ⟨fun z hz => by
        rcases List.mem_cons.mp hz with e | e
        · rw [e]; exact hx'
        · exact leS_trans hx' (h1 z e), h⟩
    · rename_i hx
      have hx' : leS y x := (leS_total x y).resolve_left fun z => hx ((leS_iff x y).mpr z)
      refine List.pairwise_cons.mpr ⟨fun z hz => ?_, insS_le x l h2⟩
      rcases List.mem_cons.mp ((insS_perm x l).mem_iff.mp hz) with e | e
      · rw [e]; exact hx'
      · exact h1 z e
theorem ssort_le : ∀ l : List Str, (ssort l).Pairwise leS
  | [] => .nil
  | x :: l => insS_le x _ (ssort_le l)
theorem sorted_is {ys ks : List Str} (p : ys.Perm ks) (s : sortedS ys = true) : ys = ssort ks := perm_eqS (p.trans (ssort_perm ks).symm) (sorted_pair s) (ssort_le ks)
def skeys? : List (Key × D) → Option (List Str)
  | [] => some []
  | (.inr x, _) :: l => (skeys? l).map (x :: ·)
  | _ :: _ => none
theorem skeys_map : ∀ {l : List (Key × D)} {ks : List Str}, skeys? l = some ks → l.map (·.1) = ks.map Sum.inr
  | [], _, e => by cases e; rfl
  | (.inr x, _) :: l, ks, e => by
    simp only [skeys?, Option.map_eq_some_iff] at e
    obtain ⟨ks', e1, rfl⟩ := e
    simp [skeys_map e1]
  | (.inl _, _) :: _, _, e => by cases e
theorem ra_strs {K : PySem.W.Frag} {w : Wd} : ∀ ss : List Str, RA K w (ss.map V.str) (ss.map D.str)
  | [] => .nil
  | n :: ns => .cons (.str n) (ra_strs ns)
def gSortedX : List D → Store → Option D
  | [.dic l], _ => (skeys? l).bind fun ks => if ks.length < 64 then some (.lst ((ssort ks).map .str)) else none
  | ds, S => gSorted ds S
section
variable {X : Cx} {cl : Str → Addr} {W : WX}
theorem c_sortedX (hc : X.calm = true) : CallR X (.builtin "sorted") (rN X.K cl gSortedX) := by
  refine ofN (CallR.or (c_sorted (cl := cl)) (call_sortedD hc)) fun xs H Q w S ds z k r hg q => ?_
  unfold gSortedX at hg
  split at hg
  · rename_i l
    obtain ⟨v, rfl, rv⟩ := ra1 r
    obtain ⟨a, vs, rfl, ha, ra⟩ := rv.dic_inv
    cases hk : skeys? l with
    | none => rw [hk] at hg; cases hg
    | some ks =>
      rw [hk] at hg
      simp only [Option.bind_some] at hg
      split at hg
      · rename_i h64
        cases hg
        refine .inr ⟨a, vs, ks, rfl, Rd.mono k.sub ha, by rw [ra.keys]; exact skeys_map hk, h64, fun ys p pm so hp => ?_⟩
        rw [sorted_is pm so]
        obtain ⟨e1, o1, r1⟩ := k.layL hp (ra_strs (ssort ks))
        exact q _ _ _ e1 o1 r1
      · cases hg
  · exact .inl ⟨w, S, ds, z, k, r, hg, q⟩
def repS (x : Str) (n : Nat) : Str := ⟨(List.replicate n x.cps).foldl (· ++ ·) #[]⟩
def gMulX : D → D → Store → Option D
  | .str x, .int n, _ => if 0 ≤ n ∧ n ≤ 1000 ∧ x.length ≤ 1000 then some (.str (if n < 1 then Str.empty else if (n == 1 || x.length == 0) = true then x else repS x n.toNat)) else none
  | d, e, S => gMul d e S
theorem op_mulStr : OpR X (binaryOp .Mult) (fun x y H Q => ∃ (z : Str) (n : Int), x = .str z ∧ y = .int n ∧ (0 ≤ n ∧ n ≤ 1000 ∧ z.length ≤ 1000) ∧ Q (.str (if n < 1 then Str.empty else if (n == 1 || z.length == 0) = true then z else repS z n.toNat)) H) := by
  intro pins s σ H x y u v Q I rx ry ⟨z, n, ex, ey, hl, q⟩
  subst ex ey
  obtain ⟨t, rfl⟩ := rx
  obtain ⟨t', rfl⟩ := ry
  have h63 : z.length * n.toNat ≤ 1000 * 1000 := Nat.mul_le_mul hl.2.2 (by omega)
  refine PySem.P.mul_str ?_ (fun h1 _ => ?_) (fun _ _ => ?_) ?_
  · have h1 : ¬ n < -(2 ^ 63 : Int) := by omega
    have h2 : ¬ n ≥ 2 ^ 63 := by omega
    rw [decide_eq_false h1, decide_eq_false h2]; rfl
  · have : (1000 : Int) ≤ (2 ^ 63 - 1) / n := by
      rw [Int.le_ediv_iff_mul_le (by omega)]
      omega
    omega
  · have := sizeLine_eq
    show decide (_ > sizeLine) = false
    exact decide_eq_false (by omega)
  · split
    · rename_i h1
      rw [if_pos h1] at q
      exact ⟨by rw [sizeLine_eq]; decide, .str _, H, I.tok _, ⟨_, rfl⟩, q⟩
    · rename_i h1
      rw [if_neg h1] at q
      split
      · rename_i h2
        rw [if_pos h2] at q
        exact ⟨.str _, H, I, ⟨_, rfl⟩, q⟩
      · rename_i h2
        rw [if_neg h2] at q
        refine ⟨?_, .str _, H, I.tok _, ⟨_, rfl⟩, q⟩
        have sz : ∀ (m : Nat) (b : Array Nat), ((List.replicate m z.cps).foldl (· ++ ·) b).size = b.size + m * z.cps.size := by
          intro m
          induction m with
          | zero => intro b; simp
          | succ m ih =>
            intro b
            rw [List.replicate_succ, List.foldl_cons, ih, Array.size_append, Nat.succ_mul]
            omega
        have := sz n.toNat #[]
        have hz : z.cps.size * n.toNat ≤ 1000 * 1000 := h63
        show ((List.replicate n.toNat z.cps).foldl (· ++ ·) #[]).size ≤ sizeLine
        rw [this, sizeLine_eq, Nat.mul_comm]
        simp
        omega
theorem o_mulX : OpR X (binaryOp .Mult) (r2 X.K cl gMulX) := by
  refine of2 (OpR.or (o_mul (cl := cl)) op_mulStr) fun x y H Q w S d e z k r1 r2 hg q => ?_
  unfold gMulX at hg
  split at hg
  · split at hg
    · rename_i h
      cases hg
      cases r1; cases r2
      exact .inr ⟨_, _, rfl, rfl, h, q w _ H (Ext.refl _ _) k (.str _)⟩
    · cases hg
  · exact .inl ⟨w, S, d, e, z, k, r1, r2, hg, q⟩
def pairs? : List D → Option (List (Key × D))
  | [] => some []
  | .tup [k, v] :: l => match keyD k with
    | some k => (pairs? l).map ((k, v) :: ·)
    | none => none
  | _ :: _ => none
def mergeD (kvs more : List (Key × D)) : List (Key × D) := more.foldl (fun acc kv => putD acc kv.1 kv.2) kvs
theorem RK.merge {K : PySem.W.Frag} {w : Wd} : ∀ {more : List (Key × V)} {moreD : List (Key × D)}, RK K w more moreD → ∀ {vs : List (Key × V)} {ds : List (Key × D)}, RK K w vs ds → RK K w (mergeK vs more) (mergeD ds moreD)
  | _, _, .nil, _, _, h => h
  | _, _, .cons r t, _, _, h => RK.merge t (RK.put r h)
theorem pairs_ra {K : PySem.W.Frag} {w : Wd} {F' : Hp} (e : Same w.F F') : ∀ {l : List D} {vs : List V} {kds : List (Key × D)}, RA K w vs l → pairs? l = some kds → ∃ (ps : List Addr) (kvs : List (Key × V)), vs = ps.map V.ref ∧ Paired (fun p kv => SqT K F' p [kV kv.1, kv.2]) ps kvs ∧ RK K w kvs kds
  | [], _, kds, .nil, h => by cases h; exact ⟨[], [], rfl, .nil, .nil⟩
  | d :: l, _, kds, .cons r t, h => by
    unfold pairs? at h
    split at h
    · rename_i heq; cases heq
    · rename_i k v l' heq
      cases heq
      split at h
      · rename_i key hk
        simp only [Option.map_eq_some_iff] at h
        obtain ⟨kds', h1, rfl⟩ := h
        obtain ⟨ps, kvs, rfl, pr, rk⟩ := pairs_ra e t h1
        obtain ⟨a, us, rfl, ha, ra⟩ := r.tup_inv
        cases ra with
        | cons r1 t1 =>
          cases t1 with
          | cons r2 t2 =>
            cases t2
            have ek := keyD_v r1 hk
            subst ek
            exact ⟨a :: ps, (key, _) :: kvs, rfl, .cons (SqT.mono e ha) pr, .cons r2 rk⟩
      · cases h
    · cases h
def gDictP : List D → Store → Option D
  | [.lst l], _ => (pairs? l).map fun kds => .dic (mergeD [] kds)
  | _, _ => none
theorem de_dictP {p pos : Pos} {a : Expr} {fa : BW.Env → Store → Res (List D)} (hc : X.calm = true) (ha : DA X cl W [a] fa) (hg : Gl X "dict") (hm : X.mg "dict" = none) (he : starEach [a] X.env = (false, eval a X.env) :: starEach [] X.env := by rfl) (hpl : (backTo pos (starEach [] X.env)).any (·.1) = false := by rfl) :
    DE X cl W (.Call (.Name "dict" p) [a] [] pos) (fN gDictP fa) := by
  refine PE.imp (PE.lkA (pe_callTy (call_dictP hc) hg hm (by decide +kernel) ha (he := he) (hpl := hpl))) fun σ H Q ⟨w, ρ, S, o, n, p⟩ => ?_
  refine tG.at o n (Post.bind p fun ds S1 w1 xs H1 e1 o1 r1 p1 => ?_)
  unfold gDictP at p1
  split at p1
  · rename_i l
    obtain ⟨v, rfl, rv⟩ := ra1 r1
    obtain ⟨a, vs, rfl, h1, h2⟩ := rv.lst_inv
    cases hp : pairs? l with
    | none => rw [hp] at p1; exact p1.elim
    | some kds =>
      rw [hp] at p1
      obtain ⟨ps, kvs, rfl, pr, rk⟩ := pairs_ra o1.sub h2 hp
      refine ⟨a, ps, kvs, rfl, o1.sqL h1, pr, fun q hq => ⟨q, _, upd_same, trivial, fun od => ?_⟩⟩
      rw [upd_upd]
      obtain ⟨e2, o2, r2⟩ := o1.layD (q := od) hq (RK.merge rk .nil)
      exact p1.okT e2 o2 r2
  · exact p1.elim
end
end BW
namespace BW
open PySem PySem.Spec PyProof.Rows L2
theorem h64 {k : Nat} {A : Around} (r : L2H.RoomH k A) : A.units + 64 < cLine := by have := r.un; omega
theorem h1 {k : Nat} {A : Around} (r : L2H.RoomH k A) : A.units + 1 < cLine := by have := r.un; omega
theorem u64 {k : Nat} {A : Around} (r : Room k A) : A.units + 64 < cLine := r.units
theorem hot_of {k : Nat} {A : Around} (r : Room k A) (h : Option Value) : L2H.RoomH k (A.mark h) := ⟨r.dp, r.un⟩
theorem kit_sub {K : PySem.W.Frag} {C B : Addr} {b : Bool} (h2 : PySem.W.isClsIn K B = true) (h3 : PySem.W.typeIn K (.ref B) = some (.type "type")) (h4 : PySem.W.subIn K (.ref C) (.ref B) = some b) : PySem.W.kitCls K (.ref C) (.ref B) = some b := by
  have h2' : (PySem.W.clsIn K B).isSome = true := h2
  have e2 : ((PySem.W.clsIn K B).isSome && PySem.W.typeIn K (.ref B) == some (.type "type")) = true := by rw [h2', h3]; rfl
  show (if ((PySem.W.clsIn K B).isSome && PySem.W.typeIn K (.ref B) == some (.type "type")) = true then _ else none) = _
  rw [if_pos e2]
  exact h4
/-- an error of the class at C is what «except B» names -/
theorem exm_sub {K : PySem.W.Frag} {C B : Addr} (h1 : PySem.W.subIn K (.ref B) (.type "BaseException") = some true) (h2 : PySem.W.isClsIn K B = true) (h3 : PySem.W.typeIn K (.ref B) = some (.type "type")) (h4 : PySem.W.subIn K (.ref C) (.ref B) = some true) : PySem.W.exmOne K (.ref C) (.ref B) = some true := by
  have e1 : (PySem.W.subIn K (.ref B) (.type "BaseException") == some true) = true := by rw [h1]; rfl
  show (if (PySem.W.subIn K (.ref B) (.type "BaseException") == some true) = true then _ else none) = _
  rw [if_pos e1]
  exact kit_sub h2 h3 h4
theorem kit_one {K : PySem.W.Frag} {C B : Addr} {b : Bool} (h2 : PySem.W.isClsIn K B = true) (h3 : PySem.W.typeIn K (.ref B) = some (.type "type")) (h4 : PySem.W.subIn K (.ref C) (.ref B) = some b) (h5 : C = B → b = true) : PySem.W.kitOne K (.ref C) (.ref B) = some b := by
  unfold PySem.W.kitOne
  split
  · rename_i e
    have : C = B := by simpa using e
    rw [h5 this]
  · exact kit_sub h2 h3 h4
theorem kit_ve {K : PySem.W.Frag} {C : Addr} (h : PySem.W.subIn K (.ref C) (.type "ValueError") = some true) : PySem.W.kitOne K (.ref C) (.type "ValueError") = some true := by
  unfold PySem.W.kitOne
  rw [if_neg (by simp)]
  show (if PySem.W.kitMeta "ValueError" = true then _ else none) = _
  rw [if_pos (by decide +kernel)]
  exact h
section
variable (ρ : BW.Env) (S : Store)
@[simp] theorem e_sRaise (c : Str) : sRaise c ρ S = .err c ρ S := rfl
@[simp] theorem e_sTry (gb : Stm) (i : Nat) (cs : List Str) (FE : Str → BW.Env → Store → Res D) : sTry gb i cs FE ρ S = match gb ρ S with
  | .err c ρ' S' => if i < ρ'.length ∧ c ∈ cs then Out.of (noErr (FE c (ρ'.set i none) S')) ρ' fun d S1 => .ret d S1 else .bad
  | o => o := rfl
@[simp] theorem e_fMt (g : List D → List D → Store → Option D) (fo : BW.Env → Store → Res D) (fa : BW.Env → Store → Res (List D)) : fMt g fo fa ρ S = (fo ρ S).bind fun d S1 => match d with
  | .lst l => (fa ρ S1).bind fun ds S2 => Res.of S2 (g l ds S2)
  | _ => .bad := rfl
@[simp] theorem e_fFld (c f : Str) (fo : BW.Env → Store → Res D) : fFld c f fo ρ S = (fo ρ S).bind fun d S1 => match insAt c d S1 with
  | some (_, fs) => Res.of S1 (fs.lookup f)
  | none => .bad := rfl
@[simp] theorem e_sFldSet (c f : Str) (fo fv : BW.Env → Store → Res D) : sFldSet c f fo fv ρ S = Out.of (fv ρ S) ρ fun y S1 => Out.of (fo ρ S1) ρ fun d S2 => match insAt c d S2 with
  | some (i, fs) => if fs.length < 1000 then .next ρ (S2.set i (.ins c (putFD f y fs))) else .bad
  | none => .bad := rfl
@[simp] theorem e_fMeth (c mn : Str) (n : Nat) (m : List D → Store → Res D) (fo : BW.Env → Store → Res D) (fa : BW.Env → Store → Res (List D)) : fMeth c mn n m fo fa ρ S = (fo ρ S).bind fun d S1 => match insAt c d S1 with
  | some (_, fs) => if fs.lookup mn = none then (fa ρ S1).bind fun ds S2 => if (d :: ds).length = n then m (d :: ds) S2 else .bad else .bad
  | none => .bad := rfl
@[simp] theorem e_fMake (c : Str) (n : Nat) (m : List D → Store → Res D) (fa : BW.Env → Store → Res (List D)) : fMake c n m fa ρ S = (fa ρ S).bind fun ds S1 => if ds.length + 1 = n then (m (.ref S1.length :: ds) (S1 ++ [.ins c []])).bind fun r S2 => (match r with
  | .non => .ok (.ref S1.length) S2
  | _ => .bad) else .bad := rfl
@[simp] theorem e_sSetOwnD (i : Nat) (f : BW.Env → Store → Res (List (Key × D))) : sSetOwnD i f ρ S = Out.of (f ρ S) ρ fun l S1 => .next (ρ.set i (some (.ownd l))) S1 := rfl
@[simp] theorem e_fDict (fa : BW.Env → Store → Res (List D)) : fDict fa ρ S = (fa ρ S).bind fun ds S1 => match ds with
  | [.dic l] => .ok l S1
  | _ => .bad := rfl
@[simp] theorem o_inT (neg : Bool) (d : D) (l : List D) : gInX neg d (.tup l) S = gIn neg d (.tup l) S := rfl
@[simp] theorem o_inL (neg : Bool) (d : D) (l : List D) : gInX neg d (.lst l) S = gIn neg d (.lst l) S := rfl
@[simp] theorem o_inS (neg : Bool) (d : D) (x : Str) : gInX neg d (.str x) S = gIn neg d (.str x) S := rfl
@[simp] theorem o_inK (neg : Bool) (x : Str) (l : List (Key × D)) : gInX neg (.str x) (.dic l) S = some (.bl (xor neg (valD l (.inr x)).isSome)) := rfl
@[simp] theorem o_mulI (i j : Int) : gMulX (.int i) (.int j) S = gMul (.int i) (.int j) S := rfl
@[simp] theorem o_mulL (l : List D) (j : Int) : gMulX (.lst l) (.int j) S = gMul (.lst l) (.int j) S := rfl
@[simp] theorem o_mulT (l : List D) (j : Int) : gMulX (.tup l) (.int j) S = gMul (.tup l) (.int j) S := rfl
@[simp] theorem o_sortL (l : List D) : gSortedX [.lst l] S = gSorted [.lst l] S := rfl
@[simp] theorem o_lenD (l : List (Key × D)) : gLen [.dic l] S = some (.int (l.length : Nat)) := rfl
@[simp] theorem o_ixD (l : List (Key × D)) (x : Str) : gIx (.dic l) (.str x) S = valD l (.inr x) := rfl
end
@[simp] theorem e_fAt0 {α : Type} (a : Addr) (r : Store → Res α) (l : BW.Env) (S : Store) : fAt 0 a r (some (.adr a) :: l) S = r S := by unfold fAt; simp
end BW
namespace BW
open PySem PySem.Spec PyProof.Rows L2
section
variable {K : PySem.W.Frag} {cl : Str → Addr} {w : Wd} {S : Store} {H : Hp}
/-- a new cell -/
theorem Ok.newCell {x : Addr} {o : HO} {c : Cell} (k : Ok K cl w S H) (hx : H x = none) (hc : CellOk K cl (w.new x) (upd H x o) x c) : Ext w H (w.new x) (upd H x o) ∧ Ok K cl (w.new x) (S ++ [c]) (upd H x o) := by
  have old : ∀ a u, H a = some u → upd H x o a = some u := fun a u e => by rw [upd_ne (ne_of_none e hx)]; exact e
  have kx : ∀ i, i < w.n → w.k i ≠ x := fun i hi z => by
    obtain ⟨c', hc⟩ : ∃ c', S[i]? = some c' := ⟨S[i]'(by rw [← k.len]; exact hi), by simp [← k.len, hi]⟩
    obtain ⟨u, ho⟩ := (k.cell i _ hc).2.there
    rw [z, hx] at ho; cases ho
  refine ⟨⟨(Le.new w x).n, (Le.new w x).k, Same.refl _, fun a u e _ => old a u e, fun a u e => ⟨u, old a u e⟩, fun a u e => .inl e, fun i h1 h2 => ?_, fun a q u e => old a _ e⟩, ⟨?_, fun a u e => ?_, fun i c' hi => ?_, fun i j hi hj e => ?_⟩⟩
  · have h3 : i < w.n + 1 := h2
    have : i = w.n := by omega
    subst this
    show H (if w.n = w.n then x else _) = none
    rw [if_pos rfl]; exact hx
  · show w.n + 1 = _
    simp [k.len]
  · exact old a u (k.sub a u e)
  · by_cases q : i < S.length
    · rw [List.getElem?_append_left q] at hi
      obtain ⟨h1, h2⟩ := k.cell i c' hi
      have e : (w.new x).k i = w.k i := (Le.new w x).k i (by rw [k.len]; exact q)
      rw [e]
      exact ⟨h1, h2.mono (Le.new w x) fun u ho => old _ u ho⟩
    · have il : i = S.length := by
        have := (List.getElem?_eq_some_iff.mp hi).1
        simp at this
        omega
      subst il
      rw [List.getElem?_append_right (Nat.le_refl _), Nat.sub_self] at hi
      cases hi
      have e : (w.new x).k S.length = x := by
        show (if S.length = w.n then x else _) = x
        rw [if_pos k.len.symm]
      rw [e]
      refine ⟨?_, hc⟩
      cases hF : w.F x with
      | none => exact hF
      | some u => rw [k.sub _ _ hF] at hx; cases hx
  · have hi' : i < w.n + 1 := hi
    have hj' : j < w.n + 1 := hj
    have e' : (if i = w.n then x else w.k i) = (if j = w.n then x else w.k j) := e
    by_cases a : i = w.n <;> by_cases b : j = w.n
    · omega
    · rw [if_pos a, if_neg b] at e'
      exact absurd e'.symm (kx j (by omega))
    · rw [if_neg a, if_pos b] at e'
      exact absurd e' (kx i (by omega))
    · rw [if_neg a, if_neg b] at e'
      exact k.inj i j (by omega) (by omega) e'
theorem R.new (k : Ok K cl w S H) (x : Addr) : R K (w.new x) (.ref x) (.ref S.length) := by
  have kx : (w.new x).k S.length = x := by
    show (if S.length = w.n then x else _) = x
    rw [if_pos k.len.symm]
  have := R.ref (K := K) (w := w.new x) (i := S.length) (by show _ < w.n + 1; rw [k.len]; omega)
  rw [kx] at this
  exact this
end
def lstAt (d : D) (S : Store) : Option (Nat × List D) := match d with
  | .ref i => match S[i]? with
    | some (.lst l) => some (i, l)
    | _ => none
  | _ => none
def dicAt (d : D) (S : Store) : Option (Nat × List (Key × D)) := match d with
  | .ref i => match S[i]? with
    | some (.dic l) => some (i, l)
    | _ => none
  | _ => none
theorem dicAt_inv {d : D} {S : Store} {i : Nat} {l : List (Key × D)} (h : dicAt d S = some (i, l)) : d = .ref i ∧ S[i]? = some (.dic l) := by
  unfold dicAt at h
  split at h
  · split at h
    · cases h; exact ⟨rfl, by assumption⟩
    · cases h
  · cases h
section
variable {X : Cx} {cl : Str → Addr} {W : WX} {e : Pt}
/-- e[b] = v, e a dict cell -/
def sPutC (fo fb fv : BW.Env → Store → Res D) : Stm := fun ρ S => Out.of (fv ρ S) ρ fun v S1 => Out.of (fo ρ S1) ρ fun d S2 => Out.of (fb ρ S2) ρ fun b S3 => match dicAt d S3, keyD b with
  | some (i, l), some k => if l.length < LIM then .next ρ (S3.set i (.dic (putD l k v))) else .bad
  | _, _ => .bad
theorem ds_putC {o b v : Expr} {tpos pos : Pos} {fo fb fv : BW.Env → Store → Res D} (hu : X.A.units + 1 < cLine) (ho : DE X cl W o fo) (hb : DE X cl W b fb) (hv : DE X cl W v fv) (hs : swapsWith v (some (.Subscript o b tpos)) pos.line X.env = pure false := by rfl) :
    DS X cl e W (.Assign [.Subscript o b tpos] v pos) (sPutC fo fb fv) := by
  refine PS.imp (ps_dput hu ho hb hv hs) fun Z σ H ⟨w, ρ, S, fs, q⟩ => fs.tG (PostS.expr q fs fun v S1 w1 u H1 e1 f1 r1 p1 => f1.tG (PostS.expr p1 f1 fun d S2 w2 x H2 e2 f2 r2 p2 => f2.tG (PostS.expr p2 f2 fun b S3 w3 y H3 e3 f3 r3 p3 => ?_)))
  split at p3
  · rename_i i l k hd hk
    split at p3
    · rename_i hlt
      obtain ⟨rfl, hs3⟩ := dicAt_inv hd
      obtain ⟨rfl, hi⟩ := r2.ref_inv
      have ek : w3.k i = w2.k i := e3.k i hi
      obtain ⟨_, vs, hc, ra⟩ := f3.ok.cell i _ hs3
      rw [ek] at hc
      refine ⟨_, _, rfl, .inl ⟨vs, k, hc, keyD_v r3 hk, lim_lt (by rw [ra.length]; exact hlt), rfl⟩, ?_⟩
      obtain ⟨o4, e4⟩ := f3.ok.put (c' := .dic (putD l k v)) (o := .dK (putK vs k u)) hs3 (fun q z e => by rw [ek, hc] at e; cases e) (by rw [ek]; exact ⟨_, upd_same, RK.put ((r1.mono e2.le).mono e3.le) ra⟩)
      rw [ek] at o4 e4
      exact p3 w3 σ _ (Le.refl _) (f3.on e4 o4)
    · exact p3.elim
  · exact p3.elim
def fLk {α : Type} (at_ : BW.Env → Store → Option Nat) (f : BW.Env → Store → Res α) : BW.Env → Store → Res α := fun ρ S => match at_ ρ S with
  | some n => match S[n]? with
    | some (.dic l) => match f ρ (S.set n (.dicL l)) with
      | .ok a S2 => match S2[n]? with
        | some (.dicL l2) => .ok a (S2.set n (.dic l2))
        | _ => .bad
      | _ => .bad
    | _ => .bad
  | none => .bad
theorem Ok.put0 {K : PySem.W.Frag} {w : Wd} {S : Store} {H : Hp} {i : Nat} {c c' : Cell} {o : HO} (k : Ok K cl w S H) (hi : S[i]? = some c) (new : CellOk K cl w (upd H (w.k i) o) (w.k i) c') : Ok K cl w (S.set i c') (upd H (w.k i) o) := by
  have il : i < S.length := (List.getElem?_eq_some_iff.mp hi).1
  have iw : i < w.n := by rw [k.len]; exact il
  obtain ⟨nf, co⟩ := k.cell i c hi
  refine ⟨by simp [k.len], fun a u e => ?_, fun j d hj => ?_, k.inj⟩
  · have : a ≠ w.k i := fun z => by rw [z, nf] at e; cases e
    rw [upd_ne this]; exact k.sub a u e
  · by_cases e : j = i
    · subst e
      rw [List.getElem?_set_self il] at hj
      cases hj
      exact ⟨nf, new⟩
    · rw [List.getElem?_set_ne (Ne.symm e)] at hj
      obtain ⟨nf', co'⟩ := k.cell j d hj
      have jl : j < S.length := (List.getElem?_eq_some_iff.mp hj).1
      have ne : w.k j ≠ w.k i := fun z => e (k.inj j i (by rw [k.len]; exact jl) iw z)
      exact ⟨nf', co'.mono (Le.refl _) fun u hu => by rw [upd_ne ne]; exact hu⟩
/-- locked, then unlocked -/
theorem Ext.unlock {w w1 : Wd} {H H1 : Hp} {a : Addr} {od : Obj} {u : HO} (ha : H a = some u) (nz : ∀ q z, u ≠ .frz q z) (hk : ∃ i, i < w.n ∧ w.k i = a) (e : Ext w (upd H a (.frz od u)) w1 H1) : Ext w H w1 (upd H1 a u) := by
  have up : ∀ b, b ≠ a → ∀ o, H b = some o → upd H a (.frz od u) b = some o := fun b nb o h => by rw [upd_ne nb]; exact h
  have dn : ∀ b, upd H a (.frz od u) b = none → H b = none := fun b h => by
    by_cases z : b = a
    · subst z; rw [upd_same] at h; cases h
    · rw [upd_ne z] at h; exact h
  refine ⟨e.n, e.k, e.F, fun b o h hb => ?_, fun b o h => ?_, fun b o h => ?_, fun i h1 h2 => dn _ (e.newK i h1 h2), fun b q z h => ?_⟩
  · obtain ⟨i, hi, ei⟩ := hk
    have nb : b ≠ a := fun z => hb i hi (by rw [z]; exact ei)
    rw [upd_ne nb]; exact e.keep b o (up b nb o h) hb
  · by_cases z : b = a
    · subst z; exact ⟨u, upd_same⟩
    · rw [upd_ne z]; exact e.there b o (up b z o h)
  · rcases e.newF b o h with h | h
    · exact .inl h
    · exact .inr (dn b h)
  · have nb : b ≠ a := fun y => by rw [y, ha] at h; cases h; exact nz q z rfl
    rw [upd_ne nb]; exact e.frz b q z (up b nb _ h)
theorem de_lk {ex : Expr} {f : BW.Env → Store → Res D} (at_ : BW.Env → Store → Option Nat) (h : DE X cl W ex f) : DE X cl W ex (fLk at_ f) := by
  refine PE.imp (pe_lock h) fun σ H Q ⟨w, ρ, S, o, n, p⟩ => ?_
  unfold fLk at p
  split at p
  · rename_i m _
    split at p
    · rename_i l hl
      obtain ⟨_, vs, hc, ra⟩ := o.cell m _ hl
      have ml : m < w.n := by rw [o.len]; exact (List.getElem?_eq_some_iff.mp hl).1
      refine ⟨w.k m, .dK vs, hc, trivial, fun od => ?_⟩
      obtain ⟨o2, e2⟩ := o.put (c' := .dicL l) (o := .frz od (.dK vs)) hl (fun q z e => by rw [hc] at e; cases e) ⟨od, vs, upd_same, ra⟩
      refine tG.at o2 (n.mono e2) ?_
      cases hf : f ρ (S.set m (.dicL l)) with
      | bad => rw [hf] at p; exact p
      | err c S1 => rw [hf] at p; exact p.elim
      | ok d S2 =>
        rw [hf] at p
        intro w1 v H1 e1 o1 r1
        have ek : w1.k m = w.k m := e1.k m ml
        have hz : H1 (w.k m) = some (.frz od (.dK vs)) := e1.frz _ _ _ upd_same
        refine ⟨hz, ?_⟩
        dsimp only at p
        split at p
        · rename_i l2 hl2
          obtain ⟨_, oz, vs2, hc2, ra2⟩ := o1.cell m _ hl2
          rw [ek, hz] at hc2
          cases hc2
          have o3 := o1.put0 (c' := .dic l2) (o := .dK vs) hl2 (by rw [ek]; exact ⟨vs, upd_same, ra2⟩)
          rw [ek] at o3
          exact p w1 v _ (Ext.unlock hc (fun q z => by intro y; cases y) ⟨m, ml, rfl⟩ e1) o3 r1
        · exact p.elim
    · exact p.elim
  · exact p.elim
/-- the keys of a locked dict cell, the items of a list cell -/
def fItemsC (f : BW.Env → Store → Res D) : BW.Env → Store → Res (List D) := fun ρ S => (f ρ S).bind fun d S1 => match d with
  | .ref n => match S1[n]? with
    | some (.dicL l) => .ok (l.map fun kv => kD kv.1) S1
    | _ => .bad
  | _ => .bad
theorem walksX_keys {K : PySem.W.Frag} {w : Wd} {H : Hp} {a : Addr} {q : Obj} {vs : List (Key × V)} {l : List (Key × D)} (h : H a = some (.frz q (.dK vs))) (r : RK K w vs l) : WalksX false K cl (Itk a q vs) w H (l.map fun kv => kD kv.1) := by
  intro i w1 S1 H1 x ok
  have hd := x.frz _ _ _ h
  refine ⟨fun d hi => ?_, fun hl => ⟨hd, by rw [r.length, ← hl]; simp⟩⟩
  rw [List.getElem?_map] at hi
  cases hv : l[i]? with
  | none => rw [hv] at hi; cases hi
  | some kv =>
    rw [hv] at hi
    cases hi
    have il : i < l.length := (List.getElem?_eq_some_iff.mp hv).1
    refine ⟨⟨hd, by rw [r.length]; exact il⟩, fun y H2 hy => ?_⟩
    obtain ⟨rfl, k, v, hk, rfl⟩ := hy
    refine ⟨w1, Ext.refl _ _, ok, ?_⟩
    have e1 : (vs.map (·.1))[i]? = some k := by rw [List.getElem?_map, hk]; rfl
    have e2 : (l.map (·.1))[i]? = some kv.1 := by rw [List.getElem?_map, hv]; rfl
    rw [r.keys, e2] at e1
    cases e1
    exact kD_R _
/-- for x in d.keys(), d a locked dict cell -/
theorem tI_keysC {f : BW.Env → Store → Res D} {σ : L2.St} {H : Hp} {Rr : It → Hp → Prop} (h : tIX false X.K cl W (fItemsC f) σ H Rr) : iKeysM (tG X.K cl W (R X.K) f) σ H Rr := by
  obtain ⟨w, ρ, S, o, n, p⟩ := h
  refine tG.at o n ?_
  unfold fItemsC at p
  cases hf : f ρ S with
  | bad => rw [hf] at p; exact p
  | err c S1 => rw [hf] at p; exact p
  | ok d S1 =>
    rw [hf] at p
    simp only [Res.bind] at p
    intro w1 v H1 e1 o1 r1
    cases d with
    | ref m =>
      dsimp only at p
      cases hs : S1[m]? with
      | none => rw [hs] at p; exact p.elim
      | some c =>
        rw [hs] at p
        cases c with
        | dicL l =>
          obtain ⟨rfl, _⟩ := r1.ref_inv
          obtain ⟨_, q, vs, hc, ra⟩ := o1.cell m _ hs
          exact ⟨_, q, vs, rfl, hc, p w1 H1 _ e1 o1 (walksX_keys hc ra)⟩
        | _ => exact p.elim
    | _ => exact p.elim
theorem di_keysC {tg ex : Expr} {apos cpos : Pos} {f : BW.Env → Store → Res D} (h : DE X cl W ex f) (hbase : attributeBase ex "keys" X.env (eval ex X.env) = eval ex X.env := by rfl) (hline : (apos.endLine == cpos.line) = true := by rfl) : DIX false X cl W tg (.Call (.Attribute ex "keys" apos) [] [] cpos) (fItemsC f) :=
  PI.imp (pi_keysM h hbase hline) fun _ _ _ q => tI_keysC q
end
end BW
namespace BW
open PySem PySem.Spec PyProof.Rows L2
section
variable {X : Cx} {cl : Str → Addr} {W : WX} {e : Pt}
theorem RK.at' {K : PySem.W.Frag} {w : Wd} : ∀ {vs : List (Key × V)} {ds : List (Key × D)} {i : Nat} {k : Key} {v : V}, RK K w vs ds → vs[i]? = some (k, v) → ∃ d, ds[i]? = some (k, d) ∧ R K w v d
  | _, _, _, _, _, .nil, h => by simp at h
  | _, _, 0, _, _, .cons r _, h => by
    simp at h
    obtain ⟨rfl, rfl⟩ := h
    exact ⟨_, rfl, r⟩
  | _, _, i + 1, _, _, .cons _ t, h => by
    obtain ⟨d, h1, h2⟩ := RK.at' (i := i) t (by simpa using h)
    exact ⟨d, by simpa using h1, h2⟩
/-- the values of a locked dict cell -/
def fValsC (f : BW.Env → Store → Res D) : BW.Env → Store → Res (List D) := fun ρ S => (f ρ S).bind fun d S1 => match d with
  | .ref n => match S1[n]? with
    | some (.dicL l) => .ok (l.map (·.2)) S1
    | _ => .bad
  | _ => .bad
theorem walksX_vals {K : PySem.W.Frag} {w : Wd} {H : Hp} {a : Addr} {q : Obj} {vs : List (Key × V)} {l : List (Key × D)} (h : H a = some (.frz q (.dK vs))) (r : RK K w vs l) : WalksX false K cl (Itd a q vs) w H (l.map (·.2)) := by
  intro i w1 S1 H1 x ok
  have hd := x.frz _ _ _ h
  refine ⟨fun d hi => ?_, fun hl => ⟨hd, by rw [r.length, ← hl]; simp⟩⟩
  rw [List.getElem?_map] at hi
  cases hv : l[i]? with
  | none => rw [hv] at hi; cases hi
  | some kv =>
    rw [hv] at hi
    cases hi
    have il : i < l.length := (List.getElem?_eq_some_iff.mp hv).1
    refine ⟨⟨hd, by rw [r.length]; exact il⟩, fun y H2 hy => ?_⟩
    obtain ⟨rfl, k, hk⟩ := hy
    obtain ⟨d, h1, h2⟩ := r.at' hk
    rw [hv] at h1
    cases h1
    exact ⟨w1, Ext.refl _ _, ok, h2.mono x.le⟩
theorem tI_valsC {f : BW.Env → Store → Res D} {σ : L2.St} {H : Hp} {Rr : It → Hp → Prop} (h : tIX false X.K cl W (fValsC f) σ H Rr) : iVals (tG X.K cl W (R X.K) f) σ H Rr := by
  obtain ⟨w, ρ, S, o, n, p⟩ := h
  refine tG.at o n ?_
  unfold fValsC at p
  cases hf : f ρ S with
  | bad => rw [hf] at p; exact p
  | err c S1 => rw [hf] at p; exact p
  | ok d S1 =>
    rw [hf] at p
    simp only [Res.bind] at p
    intro w1 v H1 e1 o1 r1
    cases d with
    | ref m =>
      dsimp only at p
      cases hs : S1[m]? with
      | none => rw [hs] at p; exact p.elim
      | some c =>
        rw [hs] at p
        cases c with
        | dicL l =>
          obtain ⟨rfl, _⟩ := r1.ref_inv
          obtain ⟨_, q, vs, hc, ra⟩ := o1.cell m _ hs
          exact ⟨_, q, vs, rfl, hc, p w1 H1 _ e1 o1 (walksX_vals hc ra)⟩
        | _ => exact p.elim
    | _ => exact p.elim
theorem di_valsC {tg ex : Expr} {apos cpos : Pos} {f : BW.Env → Store → Res D} (h : DE X cl W ex f) (hbase : attributeBase ex "values" X.env (eval ex X.env) = eval ex X.env := by rfl) (hline : (apos.endLine == cpos.line) = true := by rfl) : DIX false X cl W tg (.Call (.Attribute ex "values" apos) [] [] cpos) (fValsC f) :=
  PI.imp (pi_values h hbase hline) fun _ _ _ q => tI_valsC q
/-- {} as a dict cell -/
def fCell0 : BW.Env → Store → Res D := fun _ S => .ok (.ref S.length) (S ++ [.dic []])
theorem de_newD0 {pos : Pos} : DE X cl W (.Dict [] [] pos) fCell0 := by
  refine PE.imp pe_dnewK fun σ H Q ⟨w, ρ, S, o, n, p⟩ q hq => ?_
  obtain ⟨e2, o2⟩ := o.newCell (o := .dK []) (c := .dic []) hq ⟨[], upd_same, .nil⟩
  exact p _ _ _ e2 o2 (R.new o q)
end
end BW
namespace BW
open PySem PySem.Spec PyProof.Rows L2
section
variable {X : Cx} {cl : Str → Addr} {W : WX} {e : Pt}
def dropD (kvs : List (Key × D)) (k : Key) : List (Key × D) := kvs.filter fun kv => decide (kv.1 ≠ k)
theorem RK.drop {K : PySem.W.Frag} {w : Wd} {k : Key} : ∀ {vs : List (Key × V)} {ds : List (Key × D)}, RK K w vs ds → RK K w (dropK vs k) (dropD ds k)
  | _, _, .nil => .nil
  | _, _, .cons (k := j) r t => by
    have ih := RK.drop (k := k) t
    by_cases h : j = k
    · simpa [dropK, dropD, h] using ih
    · have : RK K w ((j, _) :: dropK _ k) ((j, _) :: dropD _ k) := .cons r ih
      simpa [dropK, dropD, h] using this
/-- d.pop(k, x), d a dict cell -/
def fPopC (fo fb fx : BW.Env → Store → Res D) : BW.Env → Store → Res D := fun ρ S => (fo ρ S).bind fun d S1 => match dicAt d S1 with
  | some _ => (fb ρ S1).bind fun b S2 => (fx ρ S2).bind fun z S3 => match dicAt d S3, keyD b with
    | some (i, l), some k => match valD l k with
      | some v => .ok v (S3.set i (.dic (dropD l k)))
      | none => .ok z S3
    | _, _ => .bad
  | none => .bad
theorem de_popC {o b x : Expr} {apos cpos : Pos} {fo fb fx : BW.Env → Store → Res D} (ho : DE X cl W o fo) (hb : DE X cl W b fb) (hx : DE X cl W x fx) (m : M2 X o "pop" apos b x cpos := by exact ⟨rfl, rfl, rfl, rfl⟩) : DE X cl W (.Call (.Attribute o "pop" apos) [b, x] [] cpos) (fPopC fo fb fx) := by
  refine PE.imp (pe_dpop2 ho hb hx m) fun σ H Q ⟨w, ρ, S, o, n, p⟩ => tG.at o n (Post.bind p fun d S1 w1 v H1 e1 o1 r1 p1 => ?_)
  split at p1
  · rename_i il hd
    obtain ⟨i, l⟩ := il
    obtain ⟨rfl, hs1⟩ := dicAt_inv hd
    obtain ⟨rfl, hi⟩ := r1.ref_inv
    obtain ⟨_, vs, hc, _⟩ := o1.cell i _ hs1
    refine ⟨_, rfl, .inl ⟨vs, .inl hc⟩, tG.at o1 (n.mono e1) (Post.bind p1 fun b S2 w2 y H2 e2 o2 r2 p2 => tG.at o2 ((n.mono e1).mono e2) (Post.bind p2 fun z S3 w3 zv H3 e3 o3 r3 p3 => ?_))⟩
    split at p3
    · rename_i i2 l2 k hd2 hk
      obtain ⟨ei, hs3⟩ := dicAt_inv hd2
      cases ei
      have hi2 : i < w2.n := Nat.lt_of_lt_of_le hi e2.n
      have ek : w3.k i = w1.k i := (e3.k i hi2).trans (e2.k i hi)
      obtain ⟨_, vs3, hc3, ra3⟩ := o3.cell i _ hs3
      rw [ek] at hc3
      refine ⟨vs3, k, hc3, keyD_v r2 hk, fun v hv => ?_, fun hv => ?_⟩
      · rcases ra3.val (k := k) with ⟨_, h2⟩ | ⟨v', d', h1, h2, h3⟩
        · rw [h2] at hv; cases hv
        · rw [h2] at hv
          cases hv
          rw [h1] at p3
          obtain ⟨o4, e4⟩ := o3.put (c' := .dic (dropD l2 k)) (o := .dK (dropK vs3 k)) hs3 (fun q z e => by rw [ek, hc3] at e; cases e) (by rw [ek]; exact ⟨_, upd_same, ra3.drop⟩)
          rw [ek] at o4 e4
          exact p3 w3 _ _ e4 o4 h3
      · rcases ra3.val (k := k) with ⟨h1, _⟩ | ⟨v', d', h1, h2, h3⟩
        · rw [h1] at p3
          exact p3 w3 _ _ (Ext.refl _ _) o3 r3
        · rw [h2] at hv; cases hv
    · exact p3.elim
  · exact p1.elim
end
end BW
namespace BW
open PySem PySem.Spec PyProof.Rows L2
section
variable {X : Cx} {cl : Str → Addr} {W : WX} {e : Pt}
def RPs (K : PySem.W.Frag) : Wd → List (V × V) → List (Key × D) → Prop := fun w ps l => ∃ kvs : List (Key × V), ps = kvs.map (fun kv => (kV kv.1, kv.2)) ∧ RK K w kvs l
structure DPs (X : Cx) (cl : Str → Addr) (W : WX) (pos : Pos) (keys : List (Option Expr)) (values : List Expr) (f : BW.Env → Store → Res (List (Key × D))) : Prop where
  ex : ∃ trs, PPs X pos keys values trs ∧ ∀ σ H Q, tG X.K cl W (RPs X.K) f σ H Q → tPairs trs σ H Q
def fP0 : BW.Env → Store → Res (List (Key × D)) := fun _ S => .ok [] S
def fPc (x : Str) (fv : BW.Env → Store → Res D) (f : BW.Env → Store → Res (List (Key × D))) : BW.Env → Store → Res (List (Key × D)) := fun ρ S => (fv ρ S).bind fun d S1 => (f ρ S1).bind fun l S2 => .ok ((.inr x, d) :: l) S2
theorem dp_nil {pos : Pos} : DPs X cl W pos [] [] fP0 := ⟨[], pps_nil, fun σ H Q ⟨w, ρ, S, o, n, p⟩ => p.here o ⟨[], rfl, .nil⟩⟩
theorem dp_cons {pos p : Pos} {x : Str} {j : Nat} {v : Expr} {ks : List (Option Expr)} {vs : List Expr} {fv : BW.Env → Store → Res D} {f : BW.Env → Store → Res (List (Key × D))} (hv : DE X cl W v fv) (ht : DPs X cl W pos ks vs f) : DPs X cl W pos (some (.Constant (.str x) j p) :: ks) (v :: vs) (fPc x fv f) := by
  obtain ⟨trs, h1, h2⟩ := ht.ex
  refine ⟨_, pps_cons (tk := tC (.str x)) pe_str hv h1, fun σ H Q ⟨w, ρ, S, o, n, q⟩ => ?_⟩
  refine tG.at o n (Post.bind q fun d S1 w1 u H1 e1 o1 r1 p1 => h2 σ H1 _ (tG.at o1 (n.mono e1) (Post.bind p1 fun l S2 w2 ps H2 e2 o2 r2 p2 => ?_)))
  obtain ⟨kvs, rfl, rk⟩ := r2
  exact p2.here o2 ⟨(.inr x, u) :: kvs, rfl, .cons (r1.mono e2.le) rk⟩
/-- a hidden thing becomes a cell -/
theorem Ok.adopt {K : PySem.W.Frag} {w w2 : Wd} {S : Store} {H H2 : Hp} {x : Addr} {o : HO} {c : Cell} (k : Ok K cl w2 S H2) (e : Ext w H w2 H2) (hx : H x = none) (hid : Hid w2 x) (hc : CellOk K cl (w2.new x) (upd H2 x o) x c) : Ext w H (w2.new x) (upd H2 x o) ∧ Ok K cl (w2.new x) (S ++ [c]) (upd H2 x o) := by
  have le := Le.new w2 x
  refine ⟨⟨Nat.le_trans e.n le.n, fun i hi => (le.k i (Nat.lt_of_lt_of_le hi e.n)).trans (e.k i hi), e.F, fun a u h hb => ?_, fun a u h => ?_, e.newF, fun i h1 h2 => ?_, fun a q u h => ?_⟩, ⟨?_, fun a u h => ?_, fun i c' hi => ?_, fun i j hi hj z => ?_⟩⟩
  · rw [upd_ne (ne_of_none h hx)]; exact e.keep a u h hb
  · rw [upd_ne (ne_of_none h hx)]; exact e.there a u h
  · have h3 : i < w2.n + 1 := h2
    show H (if i = w2.n then x else w2.k i) = none
    by_cases z : i = w2.n
    · rw [if_pos z]; exact hx
    · rw [if_neg z]; exact e.newK i h1 (by omega)
  · rw [upd_ne (ne_of_none h hx)]; exact e.frz a q u h
  · show w2.n + 1 = _
    simp [k.len]
  · have ne : a ≠ x := fun z => by
      have h' : w2.F a = some u := h
      rw [z, hid.nF] at h'; cases h'
    rw [upd_ne ne]; exact k.sub a u h
  · by_cases q : i < S.length
    · rw [List.getElem?_append_left q] at hi
      obtain ⟨h1, h2⟩ := k.cell i c' hi
      have iw : i < w2.n := by rw [k.len]; exact q
      have ei : (w2.new x).k i = w2.k i := le.k i iw
      rw [ei]
      exact ⟨h1, h2.mono le fun u hu => by rw [upd_ne (hid.nK i iw)]; exact hu⟩
    · have il : i = S.length := by
        have := (List.getElem?_eq_some_iff.mp hi).1
        simp at this
        omega
      subst il
      rw [List.getElem?_append_right (Nat.le_refl _), Nat.sub_self] at hi
      cases hi
      have ei : (w2.new x).k S.length = x := by
        show (if S.length = w2.n then x else _) = x
        rw [if_pos k.len.symm]
      rw [ei]
      exact ⟨hid.nF, hc⟩
  · have hi' : i < w2.n + 1 := hi
    have hj' : j < w2.n + 1 := hj
    have z' : (if i = w2.n then x else w2.k i) = (if j = w2.n then x else w2.k j) := z
    by_cases a : i = w2.n <;> by_cases b : j = w2.n
    · omega
    · rw [if_pos a, if_neg b] at z'
      exact absurd z'.symm (hid.nK j (by omega))
    · rw [if_neg a, if_pos b] at z'
      exact absurd z' (hid.nK i (by omega))
    · rw [if_neg a, if_neg b] at z'
      exact k.inj i j (by omega) (by omega) z'
def fCellD (f : BW.Env → Store → Res (List (Key × D))) : BW.Env → Store → Res D := fun ρ S => (f ρ S).bind fun l S1 => if l.length ≤ 15 then .ok (.ref S1.length) (S1 ++ [.dic (mergeD [] l)]) else .bad
theorem de_newD {pos : Pos} {keys : List (Option Expr)} {values : List Expr} {f : BW.Env → Store → Res (List (Key × D))} (h : DPs X cl W pos keys values f) (hall : keys.all (·.isSome) = true := by rfl) (hl : keys.length = values.length := by rfl) (h0 : keys ≠ [] := by intro z; cases z) (h15 : keys.length ≤ 15 := by decide) : DE X cl W (.Dict keys values pos) (fCellD f) := by
  obtain ⟨trs, h1, h2⟩ := h.ex
  refine PE.imp (pe_disp h1 hall hl h0 h15) fun σ H Q ⟨w, ρ, S, o, n, q⟩ x hx => ?_
  have hid := o.hid hx
  have e0 : Ext w H w (upd H x (.dK [])) := (Ext.refl w H).mut hx
  refine h2 σ _ _ (tG.at (o.mut hid) (n.mono e0) ?_)
  unfold fCellD at q
  cases hf : f ρ S with
  | bad => rw [hf] at q; exact q
  | err c S1 => rw [hf] at q; exact fun w' H' e1 o1 => q w' H' (e0.trans e1) o1
  | ok l S1 =>
    rw [hf] at q
    intro w1 ps H1 e1 o1 r1
    obtain ⟨kvs, rfl, rk⟩ := r1
    by_cases hl2 : l.length ≤ 15
    · simp only [Res.bind, if_pos hl2] at q
      have hx1 := e1.keep x _ upd_same hid.nK
      have hid1 := hid.mono e1 upd_same
      refine ⟨hx1, kvs, rfl, by rw [rk.length]; exact hl2, ?_⟩
      obtain ⟨e2, o2⟩ := o1.adopt (o := .dK (mergeK [] kvs)) (c := .dic (mergeD [] l)) (e0.trans e1) hx hid1 ⟨_, upd_same, (RK.merge rk .nil).mono (Le.new w1 x)⟩
      exact q _ _ _ e2 o2 (R.new o1 x)
    · simp only [Res.bind, if_neg hl2] at q
      exact q.elim
end
end BW
namespace BW
open PySem PySem.Spec PyProof.Rows L2
section
variable {P : Program} {w : World} {κ : Type} [DecidableEq κ] {knd : PySem.KeyKind P w κ} {A : Around} {E : Value → Shared → Prop} {s : Shared}
theorem cls_val (n : Nat) {v : Value} (h : carriedByValue v = true) : ofAClassStatement n v = pure false := by
  cases v with
  | ref a => cases h
  | _ => cases n <;> rfl
/-- a tuple of things by value is of no class statement -/
theorem cls_tup {k : List κ} {b : Addr} {Q : Bool → Shared → Prop} (hk : IsTupleKey knd s.heap k b) (h : Q false s) : wpAny (model P w) A (ofAClassStatement 8 (.ref b)) Q E s := by
  have ty := hk.typeIs
  obtain ⟨o, its, n, h1, _, h2, h3⟩ := hk
  have bv := h3.byValue
  unfold ofAClassStatement
  refine wpAny_bind (wpAny_typeOf ty ?_)
  have e : (("tuple" : String) == "tuple") = true := by decide
  simp only [e, if_true, Bool.not_true, Bool.false_eq_true, if_false]
  refine wpAny_bind (wpAny_pure ?_)
  simp only [Bool.not_true, Bool.false_eq_true, if_false]
  refine wpAny_bind (wpAny_seqItems h1 h2 (wpAny_bind ?_))
  show wpAny _ _ (forIn its _ _) _ _ s
  rw [← Array.forIn_toList]
  refine wpAny_forIn_list _ (fun l r z => r.1 = none ∧ z = s ∧ ∀ v ∈ l, carriedByValue v = true) _ (fun v l r z q => ?_) (fun r z q => ?_) _ _ ⟨rfl, rfl, bv⟩
  · obtain ⟨_, rfl, q3⟩ := q
    rw [cls_val _ (q3 v List.mem_cons_self)]
    refine wpAny_bind (wpAny_pure ?_)
    simp only [Bool.false_eq_true, if_false]
    exact wpAny_pure ⟨rfl, rfl, fun u hu => q3 u (List.mem_cons_of_mem _ hu)⟩
  · obtain ⟨r1, r2⟩ := r
    obtain ⟨q1, rfl, _⟩ := q
    cases q1
    exact wpAny_pure h
/-- who looks among such tuples shows nothing -/
theorem seen_no {k : List κ} {b : Addr} {Q : Bool → Shared → Prop} (hk : IsTupleKey knd s.heap k b) {ys : List Value} (hy : ∀ y ∈ ys, ∃ k' c, y = Value.ref c ∧ IsTupleKey knd s.heap k' c) (h : Q false s) :
    wpAny (model P w) A (searchCouldBeSeen (.ref b) ys) Q E s := by
  unfold searchCouldBeSeen
  refine wpAny_bind (wpAny_forIn_list _ (fun l r z => r.1 = none ∧ z = s ∧ ∀ y ∈ l, ∃ k' c, y = Value.ref c ∧ IsTupleKey knd s.heap k' c) _ (fun v l r z q => ?_) (fun r z q => ?_) _ _ ⟨rfl, rfl, hy⟩)
  · obtain ⟨_, rfl, q3⟩ := q
    obtain ⟨k', c, rfl, kc⟩ := q3 v List.mem_cons_self
    have more := fun u hu => q3 u (List.mem_cons_of_mem _ hu)
    dsimp only
    by_cases very : (b == c || (carriedByValue (.ref b) && carriedByValue (.ref c))) = true
    · exact wp_if_pos very (wpAny_pure ⟨rfl, rfl, more⟩)
    · refine wp_if_neg very (wpAny_bind (wpAny_eqIsQuiet_tuple hk ?_))
      simp only [Bool.not_true, Bool.false_eq_true, if_false]
      refine wpAny_bind (wpAny_eqIsQuiet_tuple kc ?_)
      simp only [Bool.not_true, Bool.false_eq_true, if_false]
      refine wpAny_bind (cls_tup hk ?_)
      simp only [Bool.false_eq_true, if_false]
      refine wpAny_bind (cls_tup kc ?_)
      simp only [Bool.false_eq_true, if_false]
      exact wpAny_pure ⟨rfl, rfl, more⟩
  · obtain ⟨r1, r2⟩ := r
    obtain ⟨q1, rfl, _⟩ := q
    cases q1
    exact wpAny_pure h
abbrev hk (knd : PySem.KeyKind P w κ) (k : List κ) : Int := tupleKeyHash knd k
abbrev ents (knd : PySem.KeyKind P w κ) (L : List (Addr × List κ)) : List (Int × Value) := L.map fun p => (hk knd p.2, Value.ref p.1)
/-- at a stands a set of these tuples -/
structure KS (knd : PySem.KeyKind P w κ) (h : Heap) (a : Addr) (L : List (Addr × List κ)) (es : Array (Int × Value)) (ep : Nat) (t : SetTable) : Prop where
  obj : ∃ o, h.get? a = some o ∧ o.ExactSet ∧ o.data = .set es ep t
  ent : es.toList = ents knd L
  tab : TabOk t (L.map fun p => hk knd p.2)
  dif : (L.map (·.2)).Nodup
  are : ∀ p ∈ L, IsTupleKey knd h p.2 p.1
  room : L.length * 5 < t.mask * 3
variable {a : Addr} {L : List (Addr × List κ)} {es : Array (Int × Value)} {ep : Nat} {t : SetTable}
theorem ents_size (h : es.toList = ents knd L) : es.size = L.length := by
  rw [← Array.length_toList, h, List.length_map]
theorem ents_at (h : es.toList = ents knd L) {i : Nat} {p : Addr × List κ} (e : L[i]? = some p) : es[i]? = some (hk knd p.2, Value.ref p.1) := by
  rw [← Array.getElem?_toList, h, List.getElem?_map, e]; rfl
theorem fits_of (h1 : t.place.size = es.size) (h2 : t.dummies = #[]) (h3 : es.size ≤ t.mask) : t.fits es.size = true := by
  unfold SetTable.fits SetTable.fill
  rw [h1, h2]
  simpa using h3
theorem KS.fit (R : KS knd s.heap a L es ep t) : t.fits es.size = true := by
  have h1 := R.tab.sz
  have h2 := ents_size R.ent
  have h3 := R.room
  rw [List.length_map] at h1
  exact fits_of (by omega) R.tab.dm (by omega)
theorem KS.odd (R : KS knd s.heap a L es ep t) : ¬ t.gaveWay = true := by
  unfold SetTable.gaveWay
  rw [mask_odd R.tab.mok]
  decide
abbrev from0 (m : Nat) (h : Int) : SetTable.Probe := runAt m (SetTable.bits h % (m + 1)) (SetTable.bits h)
theorem no_dummy (m : Nat) : ∀ (n : Nat) (p : SetTable.Probe), p.dummy = none → (nth m p n).dummy = none
  | 0, _, h => h
  | n + 1, p, h => no_dummy m n (adv m p) (by unfold adv; split <;> exact h)
/-- the look for a tuple, from the c-th step of its way on; K is the first step at an empty slot -/
theorem KS.look (R : KS knd s.heap a L es ep t) {x : Addr} {k : List κ} (hx : IsTupleKey knd s.heap k x) (hu : A.units < cLine) {K : Nat} (k1 : K < 10 * SetTable.turns t.mask)
    (k2 : way t.mask (hk knd k) K ∉ t.place.toList) (k3 : ∀ c, c < K → way t.mask (hk knd k) c ∈ t.place.toList) {Q : SetFound → Shared → Prop}
    (yes : k ∈ L.map (·.2) → Q (.there none) s) (no : k ∉ L.map (·.2) → Q (.free (way t.mask (hk knd k) K) false) s) (f : Nat) :
    ∀ (c : Nat) (st : Option SetTable.Probe), K - c < f → c ≤ K → st.getD (t.probeStart (hk knd k)) = nth t.mask (from0 t.mask (hk knd k)) c →
      (∀ (i : Nat) (p : Addr × List κ), L[i]? = some p → p.2 = k → ∃ d, c ≤ d ∧ d < K ∧ t.place.toList[i]? = some (way t.mask (hk knd k) d)) →
      wpAny (model P w) A (setSearchFrom a (.ref x) (hk knd k) true f st) Q E s := by
  induction f with
  | zero => exact fun c st hf => absurd hf (Nat.not_lt_zero _)
  | succ f ih =>
    intro c st hf hc hst ahead
    obtain ⟨o, o1, o2, o3⟩ := R.obj
    have shift : ∀ q, nth t.mask (nth t.mask (from0 t.mask (hk knd k)) c) q = nth t.mask (from0 t.mask (hk knd k)) (c + q) := fun q => (nth_add _ _ _ _).symm
    have shiftj : ∀ q, (nth t.mask (nth t.mask (from0 t.mask (hk knd k)) c) q).j = way t.mask (hk knd k) (c + q) := fun q => by rw [shift]
    have hash_at : ∀ (i : Nat) (p : Addr × List κ), L[i]? = some p → (es[i]?.map (·.1)).getD 0 = hk knd p.2 := fun i p e => by rw [ents_at R.ent e]; rfl
    -- none of equal hash was met on the way up to n
    have passed : ∀ n : Nat, (∀ (q i : Nat), q < n → t.place.toList[i]? = some (nth t.mask (nth t.mask (from0 t.mask (hk knd k)) c) q).j → (es[i]?.map (·.1)).getD 0 ≠ hk knd k) → ∀ (i : Nat) (p : Addr × List κ), L[i]? = some p → p.2 = k → ∀ d, c ≤ d → d < c + n → t.place.toList[i]? ≠ some (way t.mask (hk knd k) d) := by
      intro n hn i p e1 e2 d d1 d2 e3
      refine hn (d - c) i (by omega) ?_ (by rw [hash_at i p e1, e2])
      rw [shiftj, e3]
      congr 2
      omega
    rw [setSearchFrom_succ]
    refine wpAny_bind (wpAny_setState_of o1 o3 R.fit ?_)
    dsimp only
    refine wp_if_neg R.odd (wpAny_bind (wpAny_pure ?_))
    have go := go_spec t R.tab.ris R.tab.dm (fun i => (es[i]?.map (·.1)).getD 0) (hk knd k) (10 * SetTable.turns t.mask) (K - c) (nth t.mask (from0 t.mask (hk knd k)) c) (no_dummy _ c _ rfl) (by omega)
      (fun q hq => by rw [shiftj]; exact k3 _ (by omega)) (by rw [shiftj, show c + (K - c) = K by omega]; exact k2)
    rw [hst]
    rcases go with ⟨q, i, q1, q2, q3, q4, q5⟩ | ⟨q4, q5⟩
    · rw [show t.probe (fun i => (es[i]?.map (·.1)).getD 0) (hk knd k) (nth t.mask (from0 t.mask (hk knd k)) c) = _ from q5]
      dsimp only
      rw [shiftj] at q2
      have il : i < L.length := by
        have z := (List.getElem?_eq_some_iff.mp q2).1
        have y := R.tab.sz
        rw [Array.length_toList] at z
        rw [List.length_map] at y
        omega
      obtain ⟨p, hp⟩ : ∃ p, L[i]? = some p := ⟨_, List.getElem?_eq_getElem il⟩
      have pL := List.mem_of_getElem? hp
      have go_on : wpAny (model P w) A (searchRest a (.ref x) (hk knd k) true f es t (nth t.mask (nth t.mask (from0 t.mask (hk knd k)) c) q).j i (nth t.mask (nth t.mask (from0 t.mask (hk knd k)) c) (q + 1))) Q E s := by
        unfold searchRest
        rw [ents_at R.ent hp, shiftj]
        dsimp only
        refine wpAny_bind (wpAny_holding (wpAny_eqBool_tuple hu (R.are p pL) hx (wpAny_bind (wpAny_setState_of o1 o3 R.fit ?_))))
        dsimp only
        by_cases same : p.2 = k
        · refine wp_if_pos (by rw [decide_eq_true same]; rfl) (wpAny_pure (yes ?_))
          rw [← same]
          exact List.mem_map_of_mem pL
        · have sl := slot_live R.tab.ris q2
          refine wp_if_neg (by rw [decide_eq_false same]; decide) (wpAny_bind (wpAny_pure ?_))
          rw [sameMem]
          dsimp only
          rw [if_pos rfl, sl]
          dsimp only
          rw [ents_at R.ent hp]
          dsimp only
          refine wpAny_bind (wpAny_isSame_ref_self (wpAny_bind (wpAny_pure ?_)))
          rw [if_pos rfl]
          dsimp only
          refine wp_if_neg (by rw [decide_eq_false same]; decide) ?_
          rw [shift]
          refine ih (c + (q + 1)) _ (by omega) (by omega) rfl fun j p' e1 e2 => ?_
          obtain ⟨d, d1, d2, d3⟩ := ahead j p' e1 e2
          refine ⟨d, ?_, d2, d3⟩
          rcases Nat.lt_or_ge d (c + (q + 1)) with z | z
          · exfalso
            rcases Nat.lt_or_ge d (c + q) with y | y
            · exact passed q q4 j p' e1 e2 d d1 y d3
            · have ed : d = c + q := by omega
              rw [ed] at d3
              have sl2 := slot_live R.tab.ris d3
              rw [sl] at sl2
              injection sl2 with sl2
              rw [← sl2, hp] at e1
              exact same (by rw [Option.some.inj e1]; exact e2)
          · exact z
      by_cases hl : t.led = true
      · exact wp_if_neg (by rw [hl]; decide) (wpAny_bind (wpAny_pure go_on))
      · refine wp_if_pos (by simpa using hl) (wpAny_bind (seen_no hx (fun y hy => ?_) (wp_if_neg (by decide) (wpAny_bind (wpAny_pure go_on)))))
        obtain ⟨e, he, rfl⟩ := List.mem_map.mp hy
        have he' : e ∈ es.toList := by
          have := (Array.mem_filter.mp (Array.mem_toList_iff.mp he)).1
          exact Array.mem_toList_iff.mpr this
        rw [R.ent] at he'
        obtain ⟨p2, hp2, rfl⟩ := List.mem_map.mp he'
        exact ⟨p2.2, p2.1, rfl, R.are p2 hp2⟩
    · rw [show t.probe (fun i => (es[i]?.map (·.1)).getD 0) (hk knd k) (nth t.mask (from0 t.mask (hk knd k)) c) = _ from q5]
      dsimp only
      rw [shiftj, show c + (K - c) = K by omega]
      refine wpAny_pure (no fun hm => ?_)
      obtain ⟨p, pL, e2⟩ := List.mem_map.mp hm
      obtain ⟨i, il, e1⟩ := List.getElem_of_mem pL
      have e1' : L[i]? = some p := by rw [List.getElem?_eq_getElem il, e1]
      obtain ⟨d, d1, d2, d3⟩ := ahead i p e1' e2
      exact passed (K - c) q4 i p e1' e2 d d1 (by omega) d3
end
end BW
namespace BW
open PySem PySem.Spec PyProof.Rows L2
section
variable {P : Program} {w : World} {κ : Type} [DecidableEq κ] {knd : PySem.KeyKind P w κ} {A : Around} {E : Value → Shared → Prop} {s : Shared}
/-- what a set has of the first i of a row of tuples -/
structure Has (ks : List (Addr × List κ)) (i : Nat) (L : List (Addr × List κ)) : Prop where
  low : ∀ p ∈ L, p ∈ ks.take i
  all : ∀ p ∈ ks.take i, p.2 ∈ L.map (·.2)
  few : L.length ≤ i
theorem Has.next {ks L M : List (Addr × List κ)} {i : Nat} {p : Addr × List κ} (g : Has ks i L) (e : ks[i]? = some p) (h1 : p.2 ∈ L.map (·.2) → M = L) (h2 : p.2 ∉ L.map (·.2) → M.Perm (p :: L)) : Has ks (i + 1) M := by
  have tk : ks.take (i + 1) = ks.take i ++ [p] := by rw [List.take_add_one, e]; rfl
  by_cases c : p.2 ∈ L.map (·.2)
  · rw [h1 c]
    refine ⟨fun q hq => by rw [tk]; exact List.mem_append_left _ (g.low q hq), fun q hq => ?_, Nat.le_succ_of_le g.few⟩
    rw [tk, List.mem_append, List.mem_singleton] at hq
    rcases hq with z | rfl
    · exact g.all q z
    · exact c
  · have pm := h2 c
    refine ⟨fun q hq => ?_, fun q hq => ?_, by rw [pm.length_eq]; exact Nat.succ_le_succ g.few⟩
    · rw [tk, List.mem_append, List.mem_singleton]
      rcases List.mem_cons.mp (pm.mem_iff.mp hq) with z | z
      · exact .inr z
      · exact .inl (g.low q z)
    · rw [(pm.map (·.2)).mem_iff, List.map_cons, List.mem_cons]
      rw [tk, List.mem_append, List.mem_singleton] at hq
      rcases hq with z | rfl
      · exact .inr (g.all q z)
      · exact .inl rfl
end
end BW
namespace BW
open PySem PySem.Spec PyProof.Rows L2
section
variable {α : Type} (k : α → Int)
abbrev Ri (l : List α) : Prop := l.Pairwise fun a b => k a < k b
end
end BW
namespace BW
open PySem PySem.Spec PyProof.Rows L2
section
variable {K : PySem.W.Frag} {cl : Str → Addr} {W : WX} {σ : L2.St}
theorem Post.imp {α β : Type} {Rl : Wd → β → α → Prop} {w : Wd} {H : Hp} {r : Res α} {Q Q' : β → Hp → Prop} (h : Post K cl W σ Rl w H r Q) (i : ∀ v H', Q v H' → Q' v H') : Post K cl W σ Rl w H r Q' := by
  cases r with
  | ok d S => exact fun w1 v H1 e1 o1 r1 => i v H1 (h w1 v H1 e1 o1 r1)
  | err c S => exact h
  | bad => exact h
theorem tG.imp {α β : Type} {Rl : Wd → β → α → Prop} {f : Env → Store → Res α} {H : Hp} {Q Q' : β → Hp → Prop} (h : tG K cl W Rl f σ H Q) (i : ∀ v H', Q v H' → Q' v H') : tG K cl W Rl f σ H Q' :=
  let ⟨w, ρ, S, o, n, p⟩ := h; ⟨w, ρ, S, o, n, p.imp i⟩
end
def pairK (p : Int × Int) : Int := p.1 * 64 + p.2
def pD (p : Int × Int) : D := .tup [.int p.1, .int p.2]
end BW
namespace BW
open PySem PySem.Spec PyProof.Rows L2
section
variable {X : Cx} {cl : Str → Addr} {e : Pt} {W : WX} {pos : Pos}
def gInt : List D → Store → Option D
  | [.bl b], _ => some (.int (if b = true then 1 else 0))
  | [.int i], _ => some (.int i)
  | _, _ => none
theorem c_int : CallR X (.type "int") (rN X.K cl gInt) := by
  refine ofN call_int1 fun xs H Q w S ds z k r hg q => ?_
  unfold gInt at hg
  split at hg
  · cases hg
    obtain ⟨v, rfl, rv⟩ := ra1 r
    cases rv
    exact .inr ⟨_, rfl, by
      have := q w (.int (if _ = true then 1 else 0)) H (Ext.refl _ _) k (.int _)
      exact this⟩
  · cases hg
    obtain ⟨v, rfl, rv⟩ := ra1 r
    cases rv
    exact .inl ⟨_, rfl, q w _ H (Ext.refl _ _) k (.int _)⟩
  · cases hg
def sPar (i j : Nat) (f : BW.Env → Store → Res (List D)) : Stm := fun ρ S => Out.of (f ρ S) ρ fun ds S1 => match ds with
  | [a, b] => .next ((ρ.set i (some (.dat a))).set j (some (.dat b))) S1
  | _ => .bad
theorem ds_par {i j : Nat} {x y : Str} {a b : Expr} {f : BW.Env → Store → Res (List D)} {px py pt : Pos} {kt k2 pt2} (hc : X.calm = true) (hN : X.N.Nodup) (hi : X.N[i]? = some x) (hj : X.N[j]? = some y) (hij : i ≠ j)
    (hx : X.env.scope.names.lookup x = some .local) (hy : X.env.scope.names.lookup y = some .local) (ha : DA X cl W [a, b] f)
    (hw : swappedStores [.Tuple [.Name x px, .Name y py] kt pt] (.Tuple [a, b] k2 pt2) X.env = pure (some [x, y]))
    (hs : swapsWithSole [.Tuple [.Name x px, .Name y py] kt pt] (.Tuple [a, b] k2 pt2) pos.line X.env = pure false := by rfl) :
    DS X cl e W (.Assign [.Tuple [.Name x px, .Name y py] kt pt] (.Tuple [a, b] k2 pt2) pos) (sPar i j f) := by
  refine PS.imp (ps_par hc hN hi hj hij hx hy ha hw hs) fun Z σ H ⟨w, ρ, S, fs, p⟩ => fs.tG (PostS.expr p fs fun ds S1 w1 vs H1 _ f1 r1 p1 => ?_)
  split at p1
  · obtain ⟨v, u, rfl, rv, ru⟩ := ra2 r1
    exact ⟨v, u, rfl, p1 w1 _ H1 (Le.refl _) ((f1.set rv).set ru)⟩
  · exact p1.elim
theorem ra3 {K : PySem.W.Frag} {w : Wd} {vs : List V} {d d' d'' : D} (r : RA K w vs [d, d', d'']) : ∃ v u x, vs = [v, u, x] ∧ R K w v d ∧ R K w u d' ∧ R K w x d'' := by
  cases r with
  | cons r t =>
    obtain ⟨u, x, rfl, h1, h2⟩ := ra2 t
    exact ⟨_, u, x, rfl, r, h1, h2⟩
end
end BW
namespace BW
open PySem PySem.Spec PyProof.Rows L2
section
variable {P : Program} {w : World} {A : Around} {E : Value → Shared → Prop} {s : Shared}
/-- the heap when a sequence was gathered -/
abbrev gath (h : Heap) (vs : List Value) : Heap := (h.push (seqObj "list" #[] 0)).update h.objs.size (Obj.mapSeq (· ++ vs.toArray))
theorem collT {t : Addr} {vs : List Value} {Q : List Value → Shared → Prop} (ht : IsTup s.heap t vs.toArray) (hz : vs.length ≤ sizeLine) (h : Q vs { s with heap := gath s.heap vs }) : wpAny (model P w) A (collect (.ref t)) Q E s := by
  obtain ⟨o, o1, o2, n, o3⟩ := ht
  have new1 : (s.heap.push (seqObj "list" #[] 0)).get? s.heap.objs.size = some (seqObj "list" #[] 0) := Heap.get?_push_size _ rfl
  have old1 := Heap.get?_push_of_some (h := s.heap) (seqObj "list" #[] 0) o1
  unfold collect
  refine wpAny_bind (wpAny_runValue (codeAny_builtin entry_proto_collect' ?_))
  show wpAny _ _ (do again (.builtin "list.__iadd__" ⟨[← newList [], .ref t], []⟩)) _ _ s
  refine wpAny_bind (wpAny_newList (wpAny_pure ⟨Code.quiet_builtin _ (by decide +kernel), codeAny_builtin entry_list_iadd' ?_⟩))
  show wpAny _ _ (Builtin.List.listExtendWith (.ref s.heap.objs.size) (.ref t) (.ref s.heap.objs.size)) _ _ { s with heap := s.heap.push (seqObj "list" #[] 0) }
  unfold Builtin.List.listExtendWith
  refine wpAny_bind (wpAny_typeOf (T := "tuple") ⟨o, old1, o2⟩ ?_)
  rw [if_pos (by rw [show (Value.type "tuple" == Value.type "tuple") = true from rfl]; simp)]
  refine wpAny_bind (listItems_at old1 o3 (wpAny_bind (listItems_at (xs := #[]) (n := 0) new1 rfl ?_)))
  rw [if_neg (by simp)]
  refine wpAny_bind (listUpdate_at (xs := #[]) (n := 0) new1 rfl ?_ (Nat.zero_le _) (by show (#[] ++ vs.toArray).size ≤ sizeLine + 1; simp; omega))
  refine wpAny_pure ?_
  show wpAny (model P w) A (load s.heap.objs.size >>= _) Q E { s with heap := gath s.heap vs }
  refine wpAny_bind (wpAny_load (get?_update_seq new1 _) ?_)
  show wpAny _ _ (pure ((#[] : Array Value) ++ vs.toArray).toList) Q E _
  rw [show ((#[] : Array Value) ++ vs.toArray).toList = vs by simp]
  exact wpAny_pure h
theorem sortedT {t : Addr} {vs : List Value} {ltv : Value → Value → Bool} {Q : Value → Shared → Prop} (O : SrtO.Swo ltv) (ht : IsTup s.heap t vs.toArray) (hz : vs.length ≤ sizeLine)
    (can : 2 ≤ vs.length → ∀ (h₁ : Heap) (a : Addr), SrtO.SortableO P w A.in1.in1 { s with heap := h₁ } a vs ltv)
    (h : ∀ out : List Value, SrtO.Srtd ltv out → SrtO.Stb ltv out vs → Q (.ref (s.heap.objs.size + 1)) { s with heap := sortedAll s.heap vs out.toArray }) :
    wpAny (model P w) A (call (.builtin "sorted") [.ref t]) Q E s := by
  refine Calls.call_function_entry kind_sorted plain_sorted entry_sorted (args_sorted1 _) ?_
  unfold Builtin.«sorted»
  refine wpAny_bind (m := checkCount "sorted" 1 1 _) (wpAny_pure ?_)
  refine wpAny_bind (collT ht hz (wpAny_bind (wpAny_newList ?_ hz)))
  have size1 : (gath s.heap vs).objs.size = s.heap.objs.size + 1 := by rw [Heap.size_update, size_push']
  have atL : ((gath s.heap vs).push (seqObj "list" vs.toArray 0)).get? (s.heap.objs.size + 1) = some (seqObj "list" vs.toArray 0) := by
    rw [← size1]; exact Heap.get?_push_size _ rfl
  show wpAny _ _ _ _ _ { s with heap := (gath s.heap vs).push (seqObj "list" vs.toArray 0) }
  rw [size1]
  refine wpAny_bind (wpAny_holding (wpAny_call_entry slot_list_sort ⟨_, atL, rfl⟩ entry_list_sort (SrtO.list_sort_ord O atL hz (fun h2 => can h2 _ _) fun out h1 h2 => ⟨_, rfl, ?_⟩) (args_list_sort _)))
  exact wpAny_pure ⟨_, rfl, h out h1 h2⟩
end
section
variable {X : Cx} {cl : Str → Addr} {W : WX}
def rSortTI (K : PySem.W.Frag) : List V → Hp → VK → Prop := fun vs H Q => ∃ (a : Addr) (ns : List Int), vs = [V.ref a] ∧ SqT K H a (ns.map V.int) ∧ ∀ (ns' : List Int) (p : Addr), ns'.Perm ns → ns'.Pairwise (· ≤ ·) → H p = none → Q (.ref p) (upd H p (.lst (ns'.map V.int)))
theorem cr_sortTI : CallR X (.builtin "sorted") (rSortTI X.K) := by
  intro pins s σ H vs us Q I r h
  obtain ⟨a, ns, rfl, hs, q⟩ := h
  obtain ⟨its, rv, ht, hz⟩ := I.tuple hs
  rw [Vals.ref1 r]
  have hi := rv.ints
  refine sortedT SrtO.swo_int ht (by rw [← rv.length]; exact hz) (fun h2 h₁ a' => SrtO.ints_sortable hi h2) fun out h1 h2 => ?_
  obtain ⟨k1, k2, k3⟩ := SrtO.ints_out hi h1 h2
  obtain ⟨ep, he'⟩ := PyProof.Rows.sortedAll_at s.heap its out.toArray
  refine ⟨.ref _, upd H (s.heap.objs.size + 1) (.lst ((out.map SrtO.iv).map V.int)), I.laid (t' := s.toks) (fun _ _ => PyProof.Rows.sortedAll_old) (Nat.le_succ _) ⟨?_, out, ep, vals_of_ints k1, he'⟩, rfl, q _ _ k2 k3 (I.hok.fresh (Nat.le_succ _))⟩
  rw [List.length_map, k2.length_eq]
  rw [List.length_map] at hz
  exact hz
def gSortedY : List D → Store → Option D
  | [.tup l], _ => (ints? l).map fun ns => .lst ((isort ns).map .int)
  | ds, S => gSortedX ds S
theorem c_sortedY (hc : X.calm = true) : CallR X (.builtin "sorted") (rN X.K cl gSortedY) := by
  refine ofN (CallR.or (c_sortedX (cl := cl) hc) cr_sortTI) fun xs H Q w S ds z k r hg q => ?_
  unfold gSortedY at hg
  split at hg
  · rename_i l
    cases hb : ints? l with
    | none => rw [hb] at hg; cases hg
    | some ns =>
      rw [hb] at hg; cases hg
      obtain ⟨v, rfl, rv⟩ := ra1 r
      obtain ⟨a, vs, rfl, ha, ra⟩ := rv.tup_inv
      have e := ints_ra ra hb
      subst e
      refine .inr ⟨a, ns, rfl, k.sqT ha, fun ns' p perm ris hp => ?_⟩
      have e : ns' = isort ns := perm_le_eq (perm.trans (isort_perm ns).symm) ris (isort_le ns)
      subst e
      obtain ⟨e, o, rr⟩ := k.layL hp (ra_ints (isort ns))
      exact q _ _ _ e o rr
  · exact .inl ⟨w, S, ds, z, k, r, hg, q⟩
end
@[simp] theorem o_sortYL (S : Store) (l : List D) : gSortedY [.lst l] S = gSorted [.lst l] S := rfl
@[simp] theorem o_sortYD (S : Store) (l : List (Key × D)) : gSortedY [.dic l] S = gSortedX [.dic l] S := rfl
end BW
namespace BW
open PySem PySem.Spec PyProof.Rows L2
def gRev : D → Option D
  | .lst l => some (.lst l.reverse)
  | _ => none
def fRev (f : BW.Env → Store → Res D) : BW.Env → Store → Res D := fun ρ S => (f ρ S).bind fun d S1 => Res.of S1 (gRev d)
@[simp] theorem e_fRev (ρ : BW.Env) (S : Store) (f : BW.Env → Store → Res D) : fRev f ρ S = (f ρ S).bind fun d S1 => Res.of S1 (gRev d) := rfl
end BW
namespace BW
open PySem PySem.Spec PyProof.Rows L2
def fRg1 (f : BW.Env → Store → Res D) : BW.Env → Store → Res (Int × Int) := fun ρ S => (f ρ S).bind fun d S1 => match d with
  | .int n => .ok (0, n) S1
  | _ => .bad
def fRg2 (f g : BW.Env → Store → Res D) : BW.Env → Store → Res (Int × Int) := fun ρ S => (f ρ S).bind fun d S1 => (g ρ S1).bind fun e S2 => match d, e with
  | .int i, .int j => .ok (i, j) S2
  | _, _ => .bad
def smallRg (p : Int × Int) : Bool := decide (-100000 ≤ p.1 ∧ p.1 ≤ 100000 ∧ -100000 ≤ p.2 ∧ p.2 ≤ 100000)
def fListRg (g : BW.Env → Store → Res (Int × Int)) : BW.Env → Store → Res D := fun ρ S => (g ρ S).bind fun p S1 => if smallRg p = true then .ok (.lst (rngD p.1 (p.2 - p.1).toNat)) S1 else .bad
def fLenRg (g : BW.Env → Store → Res (Int × Int)) : BW.Env → Store → Res D := fun ρ S => (g ρ S).bind fun p S1 => if smallRg p = true then .ok (.int ((p.2 - p.1).toNat : Nat)) S1 else .bad
def fInRg (neg : Bool) (f : BW.Env → Store → Res D) (g : BW.Env → Store → Res (Int × Int)) : BW.Env → Store → Res D := fun ρ S => (f ρ S).bind fun d S1 => (g ρ S1).bind fun p S2 => match d with
  | .int i => .ok (.bl (xor neg (decide (p.1 ≤ i ∧ i < p.2)))) S2
  | _ => .bad
section
variable (ρ : BW.Env) (S : Store)
@[simp] theorem e_fRg1 (f : BW.Env → Store → Res D) : fRg1 f ρ S = (f ρ S).bind fun d S1 => match d with | .int n => .ok ((0 : Int), n) S1 | _ => .bad := rfl
@[simp] theorem e_fRg2 (f g : BW.Env → Store → Res D) : fRg2 f g ρ S = (f ρ S).bind fun d S1 => (g ρ S1).bind fun e S2 => match d, e with | .int i, .int j => (.ok (i, j) S2 : Res (Int × Int)) | _, _ => .bad := rfl
@[simp] theorem e_fListRg (g : BW.Env → Store → Res (Int × Int)) : fListRg g ρ S = (g ρ S).bind fun p S1 => if smallRg p = true then .ok (.lst (rngD p.1 (p.2 - p.1).toNat)) S1 else .bad := rfl
@[simp] theorem e_fLenRg (g : BW.Env → Store → Res (Int × Int)) : fLenRg g ρ S = (g ρ S).bind fun p S1 => if smallRg p = true then .ok (.int ((p.2 - p.1).toNat : Nat)) S1 else .bad := rfl
@[simp] theorem e_fInRg (neg : Bool) (f : BW.Env → Store → Res D) (g : BW.Env → Store → Res (Int × Int)) : fInRg neg f g ρ S = (f ρ S).bind fun d S1 => (g ρ S1).bind fun p S2 => match d with | .int i => .ok (.bl (xor neg (decide (p.1 ≤ i ∧ i < p.2)))) S2 | _ => .bad := rfl
end
end BW
namespace BW
open PySem PySem.Spec PyProof.Rows L2
section
variable {X : Cx} {cl : Str → Addr} {W : WX} {e : Pt} {pos : Pos}
/-- x == b, x own -/
def fEqOwn (neg : Bool) (i : Nat) (fb : BW.Env → Store → Res D) : BW.Env → Store → Res D := fun ρ S => match ρ[i]? with
  | some (some (.own l)) => (fb ρ S).bind fun b S1 => if okD 12 (.lst l) && okD 12 b then .ok (.bl (xor neg (deq (.lst l) b))) S1 else .bad
  | _ => .bad
/-- a in x, x own -/
def fInOwn (neg : Bool) (fa : BW.Env → Store → Res D) (i : Nat) : BW.Env → Store → Res D := fun ρ S => (fa ρ S).bind fun a S1 => match ρ[i]? with
  | some (some (.own l)) => if okD 12 a && okD 12 (.lst l) then .ok (.bl (xor neg (l.any fun z => deq z a))) S1 else .bad
  | some (some (.ownd kvs)) => match keyD a with
    | some k => .ok (.bl (xor neg (valD kvs k).isSome)) S1
    | none => .bad
  | _ => .bad
/-- {} as an own dict -/
def fDict0 : BW.Env → Store → Res (List (Key × D)) := fun _ S => .ok [] S
/-- xs[a:b] as an own list -/
def fCutL (f : BW.Env → Store → Res D) (l h : BW.Env → Store → Res (Option Int)) : BW.Env → Store → Res (List D) := fun ρ S => (f ρ S).bind fun d S1 => (l ρ S1).bind fun lo S2 => (h ρ S2).bind fun hi S3 => match d with
  | .lst xs => .ok (cutD xs lo hi) S3
  | _ => .bad
end
section
variable (ρ : BW.Env) (S : Store)
@[simp] theorem e_fEqOwn (neg : Bool) (i : Nat) (fb : BW.Env → Store → Res D) : fEqOwn neg i fb ρ S = match ρ[i]? with | some (some (.own l)) => (fb ρ S).bind fun b S1 => if okD 12 (.lst l) && okD 12 b then .ok (.bl (xor neg (deq (.lst l) b))) S1 else .bad | _ => .bad := rfl
@[simp] theorem e_fInOwn (neg : Bool) (fa : BW.Env → Store → Res D) (i : Nat) : fInOwn neg fa i ρ S = (fa ρ S).bind fun a S1 => match ρ[i]? with
  | some (some (.own l)) => if okD 12 a && okD 12 (.lst l) then .ok (.bl (xor neg (l.any fun z => deq z a))) S1 else .bad
  | some (some (.ownd kvs)) => match keyD a with
    | some k => .ok (.bl (xor neg (valD kvs k).isSome)) S1
    | none => .bad
  | _ => .bad := rfl
@[simp] theorem e_fDict0 : fDict0 ρ S = .ok [] S := rfl
@[simp] theorem e_fCutL (f : BW.Env → Store → Res D) (l h : BW.Env → Store → Res (Option Int)) : fCutL f l h ρ S = (f ρ S).bind fun d S1 => (l ρ S1).bind fun lo S2 => (h ρ S2).bind fun hi S3 => match d with | .lst xs => .ok (cutD xs lo hi) S3 | _ => .bad := rfl
end
end BW
namespace BW
open PySem PySem.Spec PyProof.Rows L2
section
variable {X : Cx} {cl : Str → Addr} {W : WX}
def fPopL (fo : BW.Env → Store → Res D) (fa : BW.Env → Store → Res (List D)) : BW.Env → Store → Res D := fun ρ S => (fo ρ S).bind fun d S1 => match lstAt d S1 with
  | some _ => (fa ρ S1).bind fun ds S2 => match lstAt d S2, ds with
    | some (i, l), [.int j] => if 0 ≤ j ∧ j < 1000 then (match l[j.toNat]? with
      | some x => .ok x (S2.set i (.lst (l.eraseIdx j.toNat)))
      | none => .bad) else .bad
    | _, _ => .bad
  | none => .bad
def fListRgC (g : BW.Env → Store → Res (Int × Int)) : BW.Env → Store → Res D := fun ρ S => (g ρ S).bind fun p S1 => if smallRg p = true then .ok (.ref S1.length) (S1 ++ [.lst (rngD p.1 (p.2 - p.1).toNat)]) else .bad
end
end BW
namespace BW
open PySem PySem.Spec PyProof.Rows L2
section
variable {X : Cx} {cl : Str → Addr} {W : WX}
def gRevT : D → Option D
  | .tup l => some (.tup l.reverse)
  | _ => none
def fRevT (f : BW.Env → Store → Res D) : BW.Env → Store → Res D := fun ρ S => (f ρ S).bind fun d S1 => Res.of S1 (gRevT d)
@[simp] theorem e_fRevT (ρ : BW.Env) (S : Store) (f : BW.Env → Store → Res D) : fRevT f ρ S = (f ρ S).bind fun d S1 => Res.of S1 (gRevT d) := rfl
end
section
variable (ρ : BW.Env) (S : Store)
@[simp] theorem e_fPopL (fo : BW.Env → Store → Res D) (fa : BW.Env → Store → Res (List D)) : fPopL fo fa ρ S = (fo ρ S).bind fun d S1 => match lstAt d S1 with
  | some _ => (fa ρ S1).bind fun ds S2 => match lstAt d S2, ds with
    | some (i, l), [.int j] => if 0 ≤ j ∧ j < 1000 then (match l[j.toNat]? with
      | some x => .ok x (S2.set i (.lst (l.eraseIdx j.toNat)))
      | none => .bad) else .bad
    | _, _ => .bad
  | none => .bad := rfl
@[simp] theorem e_fListRgC (g : BW.Env → Store → Res (Int × Int)) : fListRgC g ρ S = (g ρ S).bind fun p S1 => if smallRg p = true then .ok (.ref S1.length) (S1 ++ [.lst (rngD p.1 (p.2 - p.1).toNat)]) else .bad := rfl
end
end BW
namespace BW
open PySem PySem.Spec PyProof.Rows L2
theorem ofS_inj {a b : String} (h : Str.ofString a = Str.ofString b) : a = b := by
  rw [Str.ofString_eq_toList, Str.ofString_eq_toList] at h
  have h1 := congrArg (fun x : Str => x.cps.toList) h
  simp only [] at h1
  have inj : ∀ l m : List Char, l.map Char.toNat = m.map Char.toNat → l = m := by
    intro l
    induction l with
    | nil => intro m e; cases m with | nil => rfl | cons => cases e
    | cons x l ih =>
      intro m e
      cases m with
      | nil => cases e
      | cons y m =>
        simp only [List.map_cons, List.cons.injEq] at e
        rw [ih m e.2]
        congr 1
        exact Char.toNat_inj.mp e.1
  exact String.toList_inj.mp (inj _ _ h1)
@[simp] theorem ofS_eq (a b : String) : (Str.ofString a = Str.ofString b) ↔ a = b := ⟨ofS_inj, fun e => by rw [e]⟩
@[simp] theorem ofS_beq (a b : String) : (Str.ofString a == Str.ofString b) = (a == b) := by
  rw [Bool.eq_iff_iff, beq_iff_eq, beq_iff_eq]
  exact ofS_eq a b
@[simp] theorem ofS_ok (a : String) : PyData.strOk (Str.ofString a) = true := by
  rw [Str.ofString_eq_toList]
  unfold PyData.strOk
  rw [Array.all_eq_true]
  intro i hi
  simp only [List.size_toArray, List.length_map] at hi
  simp only [List.getElem_toArray, List.getElem_map, decide_eq_true_eq]
  have := (a.toList[i]).valid
  unfold UInt32.isValidChar Nat.isValidChar at this
  show (a.toList[i]).val.toNat < 0x110000
  omega
@[simp] theorem deq_non_bl (y : Bool) : deq D.non (D.bl y) = false := rfl
@[simp] theorem deq_non_int (y : Int) : deq D.non (D.int y) = false := rfl
@[simp] theorem deq_non_str (y : Str) : deq D.non (D.str y) = false := rfl
@[simp] theorem deq_non_tup (y : List D) : deq D.non (D.tup y) = false := rfl
@[simp] theorem deq_non_lst (y : List D) : deq D.non (D.lst y) = false := rfl
@[simp] theorem deq_bl_non (x : Bool) : deq (D.bl x) D.non = false := rfl
@[simp] theorem deq_bl_str (x : Bool) (y : Str) : deq (D.bl x) (D.str y) = false := rfl
@[simp] theorem deq_bl_tup (x : Bool) (y : List D) : deq (D.bl x) (D.tup y) = false := rfl
@[simp] theorem deq_bl_lst (x : Bool) (y : List D) : deq (D.bl x) (D.lst y) = false := rfl
@[simp] theorem deq_int_non (x : Int) : deq (D.int x) D.non = false := rfl
@[simp] theorem deq_int_str (x : Int) (y : Str) : deq (D.int x) (D.str y) = false := rfl
@[simp] theorem deq_int_tup (x : Int) (y : List D) : deq (D.int x) (D.tup y) = false := rfl
@[simp] theorem deq_int_lst (x : Int) (y : List D) : deq (D.int x) (D.lst y) = false := rfl
@[simp] theorem deq_str_non (x : Str) : deq (D.str x) D.non = false := rfl
@[simp] theorem deq_str_bl (x : Str) (y : Bool) : deq (D.str x) (D.bl y) = false := rfl
@[simp] theorem deq_str_int (x : Str) (y : Int) : deq (D.str x) (D.int y) = false := rfl
@[simp] theorem deq_str_tup (x : Str) (y : List D) : deq (D.str x) (D.tup y) = false := rfl
@[simp] theorem deq_str_lst (x : Str) (y : List D) : deq (D.str x) (D.lst y) = false := rfl
@[simp] theorem deq_tup_non (x : List D) : deq (D.tup x) D.non = false := rfl
@[simp] theorem deq_tup_bl (x : List D) (y : Bool) : deq (D.tup x) (D.bl y) = false := rfl
@[simp] theorem deq_tup_int (x : List D) (y : Int) : deq (D.tup x) (D.int y) = false := rfl
@[simp] theorem deq_tup_str (x : List D) (y : Str) : deq (D.tup x) (D.str y) = false := rfl
@[simp] theorem deq_tup_lst (x : List D) (y : List D) : deq (D.tup x) (D.lst y) = false := rfl
@[simp] theorem deq_lst_non (x : List D) : deq (D.lst x) D.non = false := rfl
@[simp] theorem deq_lst_bl (x : List D) (y : Bool) : deq (D.lst x) (D.bl y) = false := rfl
@[simp] theorem deq_lst_int (x : List D) (y : Int) : deq (D.lst x) (D.int y) = false := rfl
@[simp] theorem deq_lst_str (x : List D) (y : Str) : deq (D.lst x) (D.str y) = false := rfl
@[simp] theorem deq_lst_tup (x : List D) (y : List D) : deq (D.lst x) (D.tup y) = false := rfl
@[simp] theorem deq_non_non : deq .non .non = true := rfl
@[simp] theorem deq_bl_bl (x y : Bool) : deq (.bl x) (.bl y) = (x == y) := by simp [deq, toPy, PyData.eqv]
@[simp] theorem deq_bl_int (x : Bool) (y : Int) : deq (.bl x) (.int y) = ((if x = true then 1 else 0) == y) := by simp [deq, toPy, PyData.eqv]
@[simp] theorem deq_int_bl (x : Int) (y : Bool) : deq (.int x) (.bl y) = (x == (if y = true then 1 else 0)) := by simp [deq, toPy, PyData.eqv]
@[simp] theorem deq_tup (x y : List D) : deq (.tup x) (.tup y) = deqs x y := by simp [deq, deqs, toPy, PyData.eqv]
@[simp] theorem deq_lst (x y : List D) : deq (.lst x) (.lst y) = deqs x y := by simp [deq, deqs, toPy, PyData.eqv]
@[simp] theorem deqs_nil : deqs [] [] = true := rfl
@[simp] theorem deqs_cons (a b : D) (x y : List D) : deqs (a :: x) (b :: y) = (deq a b && deqs x y) := by simp [deqs, deq, toPys, PyData.eqvAll]
@[simp] theorem deqs_nc (b : D) (y : List D) : deqs [] (b :: y) = false := rfl
@[simp] theorem deqs_cn (b : D) (y : List D) : deqs (b :: y) [] = false := rfl
theorem deqs_map {α : Type} [DecidableEq α] {e : α → D} (h : ∀ a b, deq (e a) (e b) = decide (a = b)) : ∀ l m : List α, deqs (l.map e) (m.map e) = decide (l = m)
  | [], [] => rfl
  | [], b :: m => by simp
  | a :: l, [] => by simp
  | a :: l, b :: m => by
    rw [List.map_cons, List.map_cons, deqs_cons, h, deqs_map h l m, ← Bool.decide_and]
    simp
theorem deq_intD (a b : Int) : deq (.int a) (.int b) = decide (a = b) := by
  rw [deq_int, Bool.eq_iff_iff, beq_iff_eq, decide_eq_true_eq]
@[simp] theorem deqs_ints (l m : List Int) : deqs (l.map D.int) (m.map D.int) = decide (l = m) := deqs_map deq_intD l m
section
variable {α : Type} {e : α → D}
theorem ok_all {n : Nat} (h : ∀ x, okD n (e x) = true) (xs : List α) : (xs.map e).all (okD n) = true := by simp [h]
end
@[simp] theorem ok_int (n : Nat) (i : Int) : okD n (.int i) = true := by cases n <;> rfl
@[simp] theorem ok_bl (n : Nat) (b : Bool) : okD n (.bl b) = true := by cases n <;> rfl
@[simp] theorem ok_non (n : Nat) : okD n .non = true := by cases n <;> rfl
@[simp] theorem ok_strs (n : Nat) (x : Str) : okD n (.str x) = PyData.strOk x := by cases n <;> rfl
@[simp] theorem ok_tupC (n : Nat) (l : List D) : okD (n + 1) (.tup l) = l.all (okD n) := rfl
@[simp] theorem ok_lstC (n : Nat) (l : List D) : okD (n + 1) (.lst l) = l.all (okD n) := rfl
@[simp] theorem ok_pD (n : Nat) (p : Int × Int) : okD (n + 1) (pD p) = true := by simp [pD]
@[simp] theorem ok_scr (n : Nat) (ns : List Int) : okD (n + 1) (.scr ns) = true := rfl
theorem compT {α : Type} {e : α → D} {t : Tgt} {ft : BW.Env → Store → Res Bool} {fe : BW.Env → Store → Res D} {ρ : BW.Env} {S : Store} (p : α → Bool) (f : α → D) {xs : List α} (hl : xs.length ≤ 90000)
    (h : ∀ x ∈ xs, ∃ ρ1, t (e x) ρ = some ρ1 ∧ ft ρ1 S = .ok (p x) S ∧ (p x = true → fe ρ1 S = .ok (f x) S)) : compL t ft fe ρ (xs.map e) S [] = .ok ((xs.filter p).map f) S := by
  have key : ∀ (xs : List α) (acc : List D), acc.length + xs.length ≤ 90000 → (∀ x ∈ xs, ∃ ρ1, t (e x) ρ = some ρ1 ∧ ft ρ1 S = .ok (p x) S ∧ (p x = true → fe ρ1 S = .ok (f x) S)) → compL t ft fe ρ (xs.map e) S acc = .ok (acc ++ (xs.filter p).map f) S := by
    intro xs
    induction xs with
    | nil => intro acc _ _; simp [compL]
    | cons x xs ih =>
      intro acc hl h
      obtain ⟨ρ1, h1, h2, h3⟩ := h x List.mem_cons_self
      rw [List.map_cons]
      simp only [compL, h1, h2, noErr_ok, bind_ok]
      have rest := fun y hy => h y (List.mem_cons_of_mem _ hy)
      simp only [List.length_cons] at hl
      by_cases hp : p x = true
      · have hlt : acc.length < LIM := Nat.lt_of_lt_of_le (show acc.length < 100000 by omega) (show 100000 ≤ LIM from Nat.le_refl _)
        rw [if_pos hp, h3 hp]
        simp only [noErr_ok, bind_ok]
        rw [if_pos hlt, ih (acc ++ [f x]) (by simp; omega) rest]
        simp [hp]
      · rw [if_neg hp, ih acc (by omega) rest]
        simp [hp]
  have := key xs [] (by simpa using hl) h
  simpa using this
theorem compM {α : Type} {e : α → D} {t : Tgt} {fe : BW.Env → Store → Res D} {ρ : BW.Env} {S : Store} (f : α → D) {xs : List α} (hl : xs.length ≤ 90000)
    (h : ∀ x ∈ xs, ∃ ρ1, t (e x) ρ = some ρ1 ∧ fe ρ1 S = .ok (f x) S) : compL t fYes fe ρ (xs.map e) S [] = .ok (xs.map f) S := by
  have := compT (t := t) (ft := fYes) (fe := fe) (ρ := ρ) (S := S) (e := e) (fun _ => true) f hl fun x hx => let ⟨ρ1, h1, h2⟩ := h x hx; ⟨ρ1, h1, rfl, fun _ => h2⟩
  rw [List.filter_eq_self.mpr (fun _ _ => rfl)] at this
  exact this
/-- .. with one state of the store, and an index -/
theorem forI {α : Type} {e : α → D} {t : Tgt} {g : Stm} {S : Store} (I : List α → BW.Env → Prop) : ∀ (xs done : List α) (ρ : BW.Env), I done ρ →
    (∀ d x r ρ, done ++ xs = d ++ x :: r → I d ρ → ∃ ρ1 ρ2, t (e x) ρ = some ρ1 ∧ g ρ1 S = .next ρ2 S ∧ I (d ++ [x]) ρ2) → ∃ ρ', forL t g (xs.map e) ρ S = .next ρ' S ∧ I (done ++ xs) ρ'
  | [], done, ρ, h, _ => ⟨ρ, rfl, by simpa using h⟩
  | x :: xs, done, ρ, h, hs => by
    obtain ⟨ρ1, ρ2, e1, e2, h2⟩ := hs done x xs ρ rfl h
    obtain ⟨ρ', e3, h3⟩ := forI I xs (done ++ [x]) ρ2 h2 fun d y r ρ hd => hs d y r ρ (by rw [← hd]; simp)
    exact ⟨ρ', by rw [List.map_cons]; simp only [forL, e1, e2, e3], by simpa using h3⟩
theorem rng_map (lo : Int) (n : Nat) : rngD lo n = ((List.range n).map fun i : Nat => lo + (i : Int)).map D.int := by
  unfold rngD; simp
theorem rng1 {j : Int} (h1 : -(2 ^ 62) ≤ j) (h2 : j < 2 ^ 62) : kRng1 [.int j] = some (rngD 0 j.toNat) := by
  show (if _ then _ else _) = _
  rw [if_pos ⟨h1, h2⟩]
theorem mOf_ret {n : Nat} {g : Stm} {ds : List D} {S S' : Store} {d : D} (h : g (startE n ds) S = .ret d S') : mOf n g ds S = .ok d S' := by unfold mOf; rw [h]
theorem seq_next {g h : Stm} {ρ ρ1 : BW.Env} {S S1 : Store} (e : g ρ S = .next ρ1 S1) : sSeq g h ρ S = h ρ1 S1 := by unfold sSeq; rw [e]
end BW
namespace BW
open PySem PySem.Spec PyProof.Rows L2
def isaX (c d : Str) : Bool := c == d
theorem all0 {P : Str → Prop} : ∀ c ∈ ([] : List Str), P c := fun _ h => nomatch h
theorem all2 {P : Str → Prop} {a : Str} {l : List Str} (h : P a) (t : ∀ c ∈ l, P c) : ∀ c ∈ a :: l, P c := List.forall_mem_cons.mpr ⟨h, t⟩
section
variable {K : PySem.W.Frag} {c d : Str} {x y : Addr}
theorem excC_mk (e : clOf K c = x) (h : ExcC K x) : ExcC K (clOf K c) := by rw [e]; exact h
theorem isa_mk {b : Bool} (e1 : clOf K c = x) (e2 : clOf K d = y) (h2 : PySem.W.isClsIn K y = true) (h3 : PySem.W.typeIn K (.ref y) = some (.type "type")) (h4 : PySem.W.subIn K (.ref x) (.ref y) = some b) (h5 : PySem.W.subIn K (.ref y) (.ref y) = some true) (hb : isaX c d = b) : PySem.W.kitOne K (.ref (clOf K c)) (.ref (clOf K d)) = some (isaX c d) := by
  rw [e1, e2, hb]
  exact kit_one h2 h3 h4 fun e => by rw [e, h5] at h4; exact (Option.some.inj h4).symm
theorem isv_mk (e : clOf K c = x) (h : PySem.W.subIn K (.ref x) (.type "ValueError") = some true) : PySem.W.kitOne K (.ref (clOf K c)) (.type "ValueError") = some true := by rw [e]; exact kit_ve h
theorem exm_mk (e : clOf K c = x) (e2 : clOf K d = y) (h1 : PySem.W.subIn K (.ref y) (.type "BaseException") = some true) (h2 : PySem.W.isClsIn K y = true) (h3 : PySem.W.typeIn K (.ref y) = some (.type "type")) (h4 : PySem.W.subIn K (.ref x) (.ref y) = some true) : PySem.W.exmOne K (.ref (clOf K c)) (.ref (clOf K d)) = some true := by rw [e, e2]; exact exm_sub h1 h2 h3 h4
end
end BW
namespace BW
open PySem PySem.Spec PyProof.Rows L2
/-- which cell an expression names -/
def refAt (f : BW.Env → Store → Res D) : BW.Env → Store → Option Nat := fun ρ S => match f ρ S with
  | .ok (.ref n) _ => some n
  | _ => none
section
variable {X : Cx} {cl : Str → Addr} {W : WX} {e : Pt} {pos : Pos}
/-- a dict cell is locked while an expression is reckoned, by values -/
theorem lk_tG {K : PySem.W.Frag} {w : Wd} {H : Hp} {σ : L2.St} {ρ : BW.Env} {S : Store} {f : BW.Env → Store → Res D} {Q : VK} (at_ : BW.Env → Store → Option Nat) (o : Ok K cl w S H) (n : EnvR K w H σ ρ) (p : Post K cl W σ (R K) w H (fLk at_ f ρ S) Q) :
    ∃ d u, H d = some u ∧ Mut (some u) ∧ ∀ od, tG K cl W (R K) f σ (upd H d (.frz od u)) fun v H' => H' d = some (.frz od u) ∧ Q v (upd H' d u) := by
  unfold fLk at p
  split at p
  · rename_i m _
    split at p
    · rename_i l hl
      obtain ⟨_, vs, hc, ra⟩ := o.cell m _ hl
      have ml : m < w.n := by rw [o.len]; exact (List.getElem?_eq_some_iff.mp hl).1
      refine ⟨w.k m, .dK vs, hc, trivial, fun od => ?_⟩
      obtain ⟨o2, e2⟩ := o.put (c' := .dicL l) (o := .frz od (.dK vs)) hl (fun q z e => by rw [hc] at e; cases e) ⟨od, vs, upd_same, ra⟩
      refine tG.at o2 (n.mono e2) ?_
      cases hf : f ρ (S.set m (.dicL l)) with
      | bad => rw [hf] at p; exact p
      | err c S1 => rw [hf] at p; exact p.elim
      | ok d S2 =>
        rw [hf] at p
        intro w1 v H1 e1 o1 r1
        have ek : w1.k m = w.k m := e1.k m ml
        have hz : H1 (w.k m) = some (.frz od (.dK vs)) := e1.frz _ _ _ upd_same
        refine ⟨hz, ?_⟩
        dsimp only at p
        split at p
        · rename_i l2 hl2
          obtain ⟨_, oz, vs2, hc2, ra2⟩ := o1.cell m _ hl2
          rw [ek, hz] at hc2
          cases hc2
          have o3 := o1.put0 (c' := .dic l2) (o := .dK vs) hl2 (by rw [ek]; exact ⟨vs, upd_same, ra2⟩)
          rw [ek] at o3
          exact p w1 v _ (Ext.unlock hc (fun q z => by intro y; cases y) ⟨m, ml, rfl⟩ e1) o3 r1
        · exact p.elim
    · exact p.elim
  · exact p.elim
theorem ds_setLcK (at_ : BW.Env → Store → Option Nat) {i : Nat} {y : Str} {py : Pos} {elt tg iter : Expr} {ifs : List Expr} {scope : Scope} {own : List (Str × Nat)} {ks : List Nat} {pos spos : Pos} {fi : BW.Env → Store → Res (List D)} {t : Tgt} {ft : BW.Env → Store → Res Bool} {fe : BW.Env → Store → Res D} (hc : X.calm = true) (hN : X.N.Nodup) (hy : X.N[i]? = some y) (hyl : X.env.scope.names.lookup y = some .local)
    (hsw : swapsWith (.ListComp elt [⟨tg, iter, ifs, 0⟩] scope pos) (some (.Name y py)) spos.line X.env = pure true) (hi : DIX false X cl W tg iter fi) (ok : BlkOk X.N X.env.scope scope own)
    (hg : ∀ (s : Shared) (H : Hp) (C : Addr) (cs : List (Str × Addr)) (fp : List Addr), PG (X.blk s H scope (compEnvC scope cs C X.env) fp) tg (gE false X.K cl (own.map (·.2)) t))
    (ht : ∀ (s : Shared) (H : Hp) (C : Addr) (cs : List (Str × Addr)) (fp : List Addr), PTs (X.blk s H scope (compEnvC scope cs C X.env) fp) ifs (tG X.K cl W0 RB ft))
    (he : ∀ (s : Shared) (H : Hp) (C : Addr) (cs : List (Str × Addr)) (fp : List Addr), PE (X.blk s H scope (compEnvC scope cs C X.env) fp) elt (tG X.K cl W0 (R X.K) fe)) (hs : ∀ x, foldedSetIterable iter X.env x = pure x := by intro _; rfl) (hks : own.map (·.2) = ks := by rfl) :
    DS X cl e W (.Assign [.Name y py] (.ListComp elt [⟨tg, iter, ifs, 0⟩] scope pos) spos) (sSet i (fLk at_ (fFrz (fComp fi t ft fe ks)))) := by
  subst hks
  refine PS.imp (ps_lock (ps_setLc hc hN hy hyl hsw hi ok hg ht he hs)) fun Z σ H ⟨w, ρ, S, fs, p⟩ => ?_
  have p' := PostS.expr (Q := fun v H' => Z.nx (σ.set i (some v)) H') p fs fun d S1 w1 v H1 _ f1 r1 p1 => p1 w1 _ H1 (Le.refl _) (f1.set r1)
  obtain ⟨d, u, h1, h2, h3⟩ := lk_tG at_ fs.ok fs.env p'
  refine ⟨d, u, h1, h2, fun od => ?_⟩
  obtain ⟨w2, ρ2, S2, o2, n2, q2⟩ := h3 od
  exact tLc_of (tg := tg) (iter := iter) (fun _ z => z) ⟨w2, ρ2, S2, o2, n2, postL_frz q2⟩
abbrev TgtS := D → BW.Env → Store → Option Store
abbrev TgtsS := List D → BW.Env → Store → Option Store
def tgSub (fo fb : BW.Env → Store → Res D) : TgtS := fun d ρ S => match fo ρ S with
  | .ok x S1 => match fb ρ S1 with
    | .ok b S2 => match dicAt x S2, keyD b with
      | some (i, l), some k => if l.length < LIM then some (S2.set i (.dic (putD l k d))) else none
      | _, _ => none
    | _ => none
  | _ => none
def tgsNil : TgtsS := fun ds _ S => match ds with
  | [] => some S
  | _ => none
def tgsCons (t : TgtS) (u : TgtsS) : TgtsS := fun ds ρ S => match ds with
  | d :: ds => (t d ρ S).bind (u ds ρ)
  | [] => none
def gS (K : PySem.W.Frag) (cl : Str → Addr) (e : Pt) (t : TgtS) : TG := fun v σ H Q => ∃ w ρ S d S', Fs K cl e σ H w ρ S ∧ R K w v d ∧ t d ρ S = some S' ∧ ∀ w' H', Ext w H w' H' → Fs K cl e σ H' w' ρ S' → Q σ H'
def gSs (K : PySem.W.Frag) (cl : Str → Addr) (e : Pt) (t : TgtsS) : TGs := fun vs σ H Q => ∃ w ρ S ds S', Fs K cl e σ H w ρ S ∧ RA K w vs ds ∧ t ds ρ S = some S' ∧ ∀ w' H', Ext w H w' H' → Fs K cl e σ H' w' ρ S' → Q σ H'
theorem pset_dict (hu : X.A.units + 1 < cLine) : PSet X (fun o i v H Q => ∃ a H4, o = .ref a ∧ DPut H a i v H4 ∧ Q H4) := by
  intro pins s σ H o i v ov iv u Q I ro ri rv ⟨a, H4, eo, g, q⟩
  subst eo
  obtain rfl : ov = Value.ref a := ro
  exact d_setItem hu I g ri rv fun s4 I4 => ⟨H4, I4, q⟩
theorem dg_subC {o b : Expr} {fo fb : BW.Env → Store → Res D} (hu : X.A.units + 1 < cLine) (ho : DE X cl W0 o fo) (hb : DE X cl W0 b fb)
    (ha : ∀ v, assign (.Subscript o b pos) X.env v = (do
      let ov ← holding [v] (eval o X.env)
      let iv ← holding [v, ov] (eval b X.env)
      standAt pos
      holding [v, ov, iv] (setItem ov iv v)
      release [v, ov, iv] []) := by intro _; rfl) : PG X (.Subscript o b pos) (gS X.K cl e (tgSub fo fb)) := by
  refine PG.imp (pg_sub ho hb (pset_dict hu) ha) fun v σ H Q ⟨w, ρ, S, d, S', fs, r, ht, q⟩ => ?_
  unfold tgSub at ht
  refine fs.tG ?_
  cases hf : fo ρ S with
  | bad => rw [hf] at ht; cases ht
  | err c S1 => rw [hf] at ht; cases ht
  | ok x S1 =>
    rw [hf] at ht
    dsimp only at ht
    intro w1 xv H1 e1 o1 r1
    have f1 := fs.on e1 o1
    refine f1.tG ?_
    cases hb' : fb ρ S1 with
    | bad => rw [hb'] at ht; cases ht
    | err c S2 => rw [hb'] at ht; cases ht
    | ok k S2 =>
      rw [hb'] at ht
      dsimp only at ht
      intro w2 yv H2 e2 o2 r2
      have f2 := f1.on e2 o2
      split at ht
      · rename_i i l kk hd hk
        split at ht
        · rename_i hlt
          cases ht
          obtain ⟨rfl, hs3⟩ := dicAt_inv hd
          obtain ⟨rfl, hi⟩ := r1.ref_inv
          have ek : w2.k i = w1.k i := e2.k i hi
          obtain ⟨_, vs, hc, ra⟩ := f2.ok.cell i _ hs3
          rw [ek] at hc
          refine ⟨_, _, rfl, .inl ⟨vs, kk, hc, keyD_v r2 hk, lim_lt (by rw [ra.length]; exact hlt), rfl⟩, ?_⟩
          obtain ⟨o4, e4⟩ := f2.ok.put (c' := .dic (putD l kk d)) (o := .dK (putK vs kk v)) hs3 (fun q z e => by rw [ek, hc] at e; cases e) (by rw [ek]; exact ⟨_, upd_same, RK.put ((r.mono e1.le).mono e2.le) ra⟩)
          rw [ek] at o4 e4
          exact q w2 _ ((e1.trans e2).trans e4) (f2.on e4 o4)
        · cases ht
      · cases ht
theorem dgS_nil : PGs X [] (gSs X.K cl e tgsNil) := PGs.imp pgs_nil fun vs σ H Q ⟨w, ρ, S, ds, S', f, r, ht, q⟩ => by
  cases r with
  | nil => cases ht; exact ⟨rfl, q w H (Ext.refl _ _) f⟩
  | cons => cases ht
theorem dgS_cons {ex : Expr} {es : List Expr} {t : TgtS} {u : TgtsS} (h1 : PG X ex (gS X.K cl e t)) (h2 : PGs X es (gSs X.K cl e u))
    (hs : (assignEach (ex :: es) X.env).map (·.2) = assign ex X.env :: (assignEach es X.env).map (·.2) := by rfl) : PGs X (ex :: es) (gSs X.K cl e (tgsCons t u)) := PGs.imp (pgs_cons h1 h2 hs) fun vs σ H Q ⟨w, ρ, S, ds, S', f, r, ht, q⟩ => by
  cases r with
  | nil => cases ht
  | @cons v d vs ds r rr =>
    have ht : (t d ρ S).bind (u ds ρ) = some S' := ht
    cases h : t d ρ S with
    | none => rw [h] at ht; cases ht
    | some S1 =>
      rw [h] at ht
      exact ⟨v, vs, rfl, w, ρ, S, d, S1, f, r, h, fun w1 H1 e1 f1 => ⟨w1, ρ, S1, ds, S', f1, rr.mono e1.le, ht, fun w2 H2 e2 f2 => q w2 H2 (e1.trans e2) f2⟩⟩
def sAsgS (n : Nat) (u : TgtsS) (f : BW.Env → Store → Res D) : Stm := fun ρ S => Out.of (f ρ S) ρ fun d S1 => match d with
  | .tup l => if l.length = n then match u l ρ S1 with
    | some S2 => .next ρ S2
    | none => .bad
    else .bad
  | _ => .bad
theorem ds_asgS {es : List Expr} {ex : Expr} {k n : Nat} {tpos : Pos} {u : TgtsS} {f : BW.Env → Store → Res D} (hc : X.calm = true) (h : DE X cl W ex f) (hg : PGs X es (gSs X.K cl e u)) (hn : (assignEach es X.env).length = n := by rfl) (hst : (assignEach es X.env).findIdx? (·.1) = none := by rfl) (hs : swapsWithSole [.Tuple es k tpos] ex pos.line X.env = pure false := by rfl) (hw : swappedStores [.Tuple es k tpos] ex X.env = pure none := by rfl)
    (h1 : (assignEach [.Tuple es k tpos] X.env).map (·.2) = [assign (.Tuple es k tpos) X.env] := by rfl) : DS X cl e W (.Assign [.Tuple es k tpos] ex pos) (sAsgS n u f) :=
  PS.imp (ps_asg h (pg_tup hc hg hn hst) hs hw h1) fun Z σ H ⟨w, ρ, S, fs, p⟩ => fs.tG (PostS.expr p fs fun d S1 w1 v H1 _ f1 r1 p1 => by
    split at p1
    · rename_i l
      split at p1
      · rename_i hl
        split at p1
        · rename_i S2 ht
          obtain ⟨a, vs, rfl, ha, ra⟩ := r1.tup_inv
          exact ⟨a, vs, rfl, f1.ok.sqT ha, by rw [ra.length]; exact hl, w1, ρ, S1, l, S2, f1, ra, ht, fun w' H' ex' f' => p1 w' σ H' ex'.le f'⟩
        · exact p1.elim
      · exact p1.elim
    · exact p1.elim)
end
end BW
namespace BW
open PySem PySem.Spec PyProof.Rows L2
section
variable {X : Cx} {cl : Str → Addr} {W : WX}
/-- sorted(d.keys()), fewer than 64 keys, all texts -/
theorem pe_sortedKeys {e : Expr} {td : TE} {p apos cpos pos : Pos} (hcalm : X.calm = true) (he : PE X e td) (hg : Gl X "sorted") (hmg : X.mg "sorted" = none)
    (hbase : attributeBase e "keys" X.env (eval e X.env) = eval e X.env := by rfl) (hline : (apos.endLine == cpos.line) = true := by rfl)
    (hst : starEach [.Call (.Attribute e "keys" apos) [] [] cpos] X.env = (false, eval (.Call (.Attribute e "keys" apos) [] [] cpos) X.env) :: starEach [] X.env := by rfl) (hpl : (backTo pos (starEach [] X.env)).any (·.1) = false := by rfl) :
    PE X (.Call (.Name "sorted" p) [.Call (.Attribute e "keys" apos) [] [] cpos] [] pos) (fun σ H Q => td σ H fun x H1 => ∃ (a : Addr) (kvs : List (Key × V)) (ks : List Str), x = V.ref a ∧ Rd H1 a (.dK kvs) ∧ kvs.map (·.1) = ks.map Sum.inr ∧ ks.length < 64 ∧ ∀ ys p, ys.Perm ks → sortedS ys = true → H1 p = none → Q (.ref p) (upd H1 p (.lst (ys.map V.str)))) := by
  refine ⟨fun pins s σ H Q I h => ?_⟩
  refine wpAny_Call_Name_kw (ld_blt I hg hmg bb_sorted ?_ (by decide) (by decide))
  refine PyProof.Rows.callWith_builtin1 ?_ hst hpl
  rw [hst]
  show wpAny _ _ (spliced ((false, eval _ X.env) :: backTo pos (starEach [] X.env))) _ _ s
  refine Calls.spliced_cons ?_
  refine wpAny_Call_method (T := "dict") (id := "dict.keys") hbase rfl hline F.plainAttrs_dict F.slot_dict_keys F.type_dict_keys (thn (he.run pins s σ H _ I h) fun u s1 ⟨x, H1, I1, rx, d, kvs, ks, ex, hd, hks, h64, q⟩ => ?_)
  subst ex
  obtain rfl : u = Value.ref d := rx
  obtain ⟨z, lo, vs, rel, dd⟩ := dk_rd I1.hok hd
  obtain ⟨ep, hat⟩ := dd.dictAt
  have hkeys : vs.map (·.1) = ks.map Sum.inr := rel.keys.symm.trans hks
  have hl : vs.length = ks.length := by
    have e := congrArg List.length hkeys
    rw [List.length_map, List.length_map] at e
    exact e
  have h16 : vs.length ≤ sizeLine := by rw [hl, sizeLine_eq]; omega
  refine ⟨hat.dictOf.typeIs, hat.dictOf.mapOf.noDict, ?_⟩
  have I2 : Inv X pins σ H1 { s1 with heap := s1.heap.push { cls := .type "dict_keys", data := .fields #[.ref d] } } := I1.kept (t' := s1.toks) fun b ob q => Heap.get?_push_of_some _ q
  have hv : PySem.W.KdlKeysView (s1.heap.push { cls := .type "dict_keys", data := .fields #[.ref d] }) s1.heap.objs.size d := ⟨_, Heap.get?_push_size _ rfl, rfl, rfl⟩
  have hat2 : (s1.heap.push { cls := .type "dict_keys", data := .fields #[.ref d] }).DictAt (mixKind X.prog X.w) d vs ep := hat.push _
  show wpAny _ _ (callWith cpos (.builtin "dict.keys") [.ref d] [] []) _ X.xe s1
  refine method_meetsIn F.slot_dict_keys F.entry_dict_keys rfl (PySem.evalArgs_none ⟨rfl, hat.dictOf.typeIs, F.args_dict_keys_1 _, _, PySem.W.kdl_meets_keys (mixKind X.prog X.w) d lo, ⟨vs, hat.dictOf⟩, ?_⟩)
  generalize hs2 : ({ s1 with heap := s1.heap.push { cls := .type "dict_keys", data := .fields #[.ref d] } } : Shared) = s2 at *
  refine Calls.spliced_nil ?_
  subst hs2
  refine Calls.call_function_entry PyProof.Rows.kind_sorted PyProof.Rows.plain_sorted PyProof.Rows.entry_sorted (PyProof.Rows.args_sorted1 _) ?_
  unfold Builtin.«sorted»
  refine wpAny_bind (m := checkCount "sorted" 1 1 _) (wpAny_pure ?_)
  refine wpAny_bind (PySem.W.kdu_collect (A := X.A.in1) (PySem.W.kdl_keys (knd := mixKind X.prog X.w) (kvs := vs) (ep := ep) (r := s1.heap.objs.size) (d := d)) (I2.ok.hd hcalm) ⟨hv, hat2⟩ h16 fun h' tk acc hk hacc => ?_)
  have hal : acc.toList.length = ks.length := by rw [Array.length_toList, hacc.1, hl]
  have hS : StrsAre acc.toList ks := strs_at hal fun j v e => by
    obtain ⟨k, x, e1, e2⟩ := hacc.2 j v (by rw [← Array.getElem?_toList]; exact e)
    have e3 : (vs.map (·.1))[j]? = some k := by rw [List.getElem?_map, e1]; all_goals rfl
    rw [hkeys, List.getElem?_map] at e3
    cases e4 : ks[j]? with
    | none => rw [e4] at e3; cases e3
    | some y =>
      rw [e4] at e3
      have e5 : Sum.inr y = k := Option.some.inj e3
      subst e5
      obtain ⟨t, ev⟩ := Value.isStrOf_shape (x := y) (v := v) e2
      exact ⟨y, t, rfl, ev⟩
  have I3 : Inv X pins σ H1 { s1 with heap := h', toks := tk } := I2.kept hk
  refine wpAny_bind (wpAny_newList ?_ (by rw [hal, sizeLine_eq]; omega))
  have hoL : (h'.push (seqObj "list" acc.toList.toArray 0)).get? h'.objs.size = some (seqObj "list" acc.toList.toArray 0) := Heap.get?_push_size _ rfl
  show wpAny _ _ _ _ _ { s1 with heap := h'.push (seqObj "list" acc.toList.toArray 0), toks := tk }
  refine wpAny_bind (wpAny_holding (wpAny_call_entry PyProof.Rows.slot_list_sort ⟨_, hoL, rfl⟩ PyProof.Rows.entry_list_sort
    (list_sort_treeK strKind_oneLt (s := { s1 with heap := h'.push (seqObj "list" acc.toList.toArray 0), toks := tk }) hoL hS.keysOf (fun v₁ v₂ rest e => keyKind_strs (by rw [← e]; exact hS)) (by rw [hal]; exact h64) fun st' hp hs => ⟨_, rfl, ?_⟩)
    (PyProof.Rows.args_list_sort _)))
  obtain ⟨ys, g1, g2, g3⟩ := sorted_out_str hS hp hs
  obtain ⟨e', he'⟩ := PyProof.Rows.sortedHeap_at (vs := acc.toList) (out := (arrOf st').map (·.2)) hoL
  have hlen : (ys.map V.str).length ≤ sizeLine := by
    rw [List.length_map, g2.length_eq]
    exact Nat.le_trans (Nat.le_of_lt h64) (by decide)
  refine wpAny_pure ⟨_, rfl, .ref h'.objs.size, upd H1 h'.objs.size (.lst (ys.map V.str)), I3.laid (t' := tk) (fun b u e => ?_) (Nat.le_refl _)
    (show ObjOk X.prog X.w _ _ _ (.lst (ys.map V.str)) from ⟨hlen, ((arrOf st').map (·.2)).toList, e', vals_of_strs g1, by rw [Array.toArray_toList]; exact he'⟩), rfl, q ys _ g2 g3 (I3.hok.fresh (Nat.le_refl _))⟩
  have hb : b < h'.objs.size := Heap.lt_size e
  rw [PyProof.Rows.sortedHeap_old (Nat.ne_of_lt hb) (by rw [size_push']; exact Nat.lt_succ_of_lt hb)]
  exact Heap.get?_push_of_some _ e
def fSortK (f : BW.Env → Store → Res D) : BW.Env → Store → Res D := fun ρ S => (f ρ S).bind fun d S1 => match dicAt d S1 with
  | some (_, l) => match skeys? l with
    | some ks => if ks.length < 64 then .ok (.lst ((ssort ks).map .str)) S1 else .bad
    | none => .bad
  | none => .bad
theorem de_sortK {e : Expr} {f : BW.Env → Store → Res D} {p apos cpos pos : Pos} (hcalm : X.calm = true) (he : DE X cl W e f) (hg : Gl X "sorted") (hmg : X.mg "sorted" = none)
    (hbase : attributeBase e "keys" X.env (eval e X.env) = eval e X.env := by rfl) (hline : (apos.endLine == cpos.line) = true := by rfl)
    (hst : starEach [.Call (.Attribute e "keys" apos) [] [] cpos] X.env = (false, eval (.Call (.Attribute e "keys" apos) [] [] cpos) X.env) :: starEach [] X.env := by rfl) (hpl : (backTo pos (starEach [] X.env)).any (·.1) = false := by rfl) :
    DE X cl W (.Call (.Name "sorted" p) [.Call (.Attribute e "keys" apos) [] [] cpos] [] pos) (fSortK f) := by
  refine PE.imp (pe_sortedKeys hcalm he hg hmg hbase hline hst hpl) fun σ H Q ⟨w, ρ, S, o, n, q⟩ => ?_
  refine tG.at o n (Post.bind q fun d S1 w1 v H1 e1 o1 r1 p1 => ?_)
  split at p1
  · rename_i i l hd
    split at p1
    · rename_i ks hk
      split at p1
      · rename_i h64
        obtain ⟨rfl, hs⟩ := dicAt_inv hd
        obtain ⟨rfl, hi⟩ := r1.ref_inv
        obtain ⟨_, vs, hc, ra⟩ := o1.cell i _ hs
        refine ⟨_, vs, ks, rfl, .inl hc, by rw [ra.keys]; exact skeys_map hk, h64, fun ys p pm so hp => ?_⟩
        rw [sorted_is pm so]
        obtain ⟨e2, o2, r2⟩ := o1.layL hp (ra_strs (ssort ks))
        exact p1 _ _ _ e2 o2 r2
      · exact p1.elim
    · exact p1.elim
  · exact p1.elim
end
end BW
namespace BW
open PySem PySem.Spec PyProof.Rows L2
def g_law_cell : Stm := (sSeq (sIf (fB (f2 (gEq false) (fV 0) (fLst fNil))) (sRet (f2 gMulX (fC (.int 7)) (fV 1))) sNil)
    (sRet (f2 gAdd (f2 gIx (fV 0) (f2 gMod (fV 1) (fN gLen (fCons (fV 0) fNil)))) (f2 gMulX (fC (.int 6553)) (f2 gFdiv (fV 1) (fN gLen (fCons (fV 0) fNil)))))))
def m_law_cell : List D → Store → Res D := mOf 2 g_law_cell
def g_law_drawn : Stm := (sSeq (sSet 3 (f2 gMod (f2 gAdd (f2 gMulX (f2 gMod (fM 2 m_law_cell (fCons (fV 0) (fCons (fV 1) fNil))) (fC (.int 2147483563))) (fC (.int 69069))) (f2 gMulX (fC (.int 104723)) (f2 gAdd (fV 1) (fC (.int 1))))) (fC (.int 2147483563))))
    (sSeq (sSet 3 (f2 gMod (f2 gAdd (f2 gMulX (fV 3) (fV 3)) (f2 gFdiv (fV 3) (fC (.int 3)))) (fC (.int 2147483399))))
    (sRet (f2 gMod (f2 gFdiv (f2 gMod (f2 gAdd (f2 gMulX (fV 3) (fV 3)) (f2 gFdiv (fV 3) (fC (.int 7)))) (fC (.int 2147483647))) (fC (.int 11))) (fV 2)))))
def m_law_drawn : List D → Store → Res D := mOf 4 g_law_drawn
def g_Codes_init : Stm := (sSeq (sFldSet "Codes" "tries" (fV 0) (fV 1))
    (sSeq (sFldSet "Codes" "rest" (fV 0) (fV 2))
    (sSeq (sFldSet "Codes" "rows" (fV 0) (fC (.dic [])))
    (sSeq (sFldSet "Codes" "misses" (fV 0) (fC (.int 0)))
    (sSeq (sFldSet "Codes" "since" (fV 0) (fC (.int 0)))
    (sSeq (sFldSet "Codes" "shut" (fV 0) (fC (.int 0)))
    (sFldSet "Codes" "last" (fV 0) (fC (.int 0)))))))))
def m_Codes_init : List D → Store → Res D := mOf 3 g_Codes_init
def g_law_codes : Stm := (sRet (fCellD (fPc "tries" (fV 0) (fPc "rest" (fV 1) (fPc "rows" fCell0 (fPc "misses" (fC (.int 0)) (fPc "since" (fC (.int 0)) (fPc "shut" (fC (.int 0)) (fPc "last" (fC (.int 0)) fP0)))))))))
def m_law_codes : List D → Store → Res D := mOf 2 g_law_codes
def g_is_name : Stm := (sRet (vAnd (fIsi isStrD (fV 0)) (vAnd (fChain gLe gLe (fC (.int 1)) (fN gLen (fCons (fV 0) fNil)) (fC (.int 6))) (fN gAll (fCons (fFrz (fComp (fItems (fV 0)) (tgName 1) fYes (f2 (gInX false) (fV 1) (fC (.str "abcdefghijklmnopqrstuvwxyz"))) [1])) fNil)))))
def m_is_name : List D → Store → Res D := mOf 2 g_is_name
def g_is_code : Stm := (sRet (vAnd (fIsi isStrD (fV 0)) (vAnd (fChain gLe gLe (fC (.int 4)) (fN gLen (fCons (fV 0) fNil)) (fC (.int 6))) (fN gAll (fCons (fFrz (fComp (fItems (fV 0)) (tgName 1) fYes (f2 (gInX false) (fV 1) (fC (.str "0123456789"))) [1])) fNil)))))
def m_is_code : List D → Store → Res D := mOf 2 g_is_code
def g_are_rights : Stm := (sRet (vAnd (fIsi isTupD (fV 0)) (f2 (gInX false) (fV 0) (fTup (fCons (fTup fNil) (fCons (fTup (fCons (fC (.str "lift")) fNil)) (fCons (fTup (fCons (fC (.str "set")) fNil)) (fCons (fC (.tup [(.str "lift"), (.str "set")])) fNil))))))))
def m_are_rights : List D → Store → Res D := mOf 1 g_are_rights
def g_Codes_who : Stm := (sSeq (sSet 2 (fFrz (fComp (fItems (fFld "Codes" "rows" (fV 0))) (tgName 3) (fB (f2 (gEq false) (f2 gIx (f2 gIx (fFld "Codes" "rows" (fV 0)) (fV 3)) (fC (.int 0))) (fV 1))) (fV 3) [3])))
    (sRet (fIf (fB (f2 (gEq true) (fV 2) (fLst fNil))) (f2 gIx (fV 2) (fC (.int 0))) (fC .non))))
def m_Codes_who : List D → Store → Res D := mOf 4 g_Codes_who
def g_Codes_give : Stm := (sSeq (sIf (fNot (fB (fM 1 m_is_name (fCons (fV 1) fNil)))) (sRaise "NoName") sNil)
    (sSeq (sIf (fNot (fB (fM 1 m_is_code (fCons (fV 2) fNil)))) (sRaise "NoCode") sNil)
    (sSeq (sIf (fNot (fB (fM 1 m_are_rights (fCons (fV 3) fNil)))) (sRaise "NoRight") sNil)
    (sSeq (sIf (fOr (fB (f2 (gInX false) (fV 1) (fFld "Codes" "rows" (fV 0)))) (fB (f2 (gIs true) (fMeth "Codes" "who" 2 m_Codes_who (fV 0) (fCons (fV 2) fNil)) (fC .non)))) (sRaise "Taken") sNil)
    (sSeq (sSetOwnD 4 (fDict (fCons (fFld "Codes" "rows" (fV 0)) fNil)))
    (sSeq (sPutOwnD 4 (fV 1) (fTup (fCons (fV 2) (fCons (fV 3) fNil))))
    (sFreeze 4 (sSeq (sFldSet "Codes" "rows" (fV 0) (fV 4))
    (sRet (fN gLen (fCons (fV 4) fNil)))))))))))
def m_Codes_give : List D → Store → Res D := mOf 5 g_Codes_give
def g_Codes_take : Stm := (sSeq (sIf (fB (f2 (gInX true) (fV 1) (fFld "Codes" "rows" (fV 0)))) (sRaise "NoName") sNil)
    (sSeq (sSet 2 (f2 gIx (fFld "Codes" "rows" (fV 0)) (fV 1)))
    (sSeq (sFldSet "Codes" "rows" (fV 0) (fN gDictP (fCons (fFrz (fComp (fItems (fFld "Codes" "rows" (fV 0))) (tgName 3) (fB (f2 (gEq true) (fV 3) (fV 1))) (fTup (fCons (fV 3) (fCons (f2 gIx (fFld "Codes" "rows" (fV 0)) (fV 3)) fNil))) [3])) fNil)))
    (sRet (fV 2)))))
def m_Codes_take : List D → Store → Res D := mOf 4 g_Codes_take
def g_Codes_locked_at : Stm := (sRet (fChain gLe gLt (fFld "Codes" "since" (fV 0)) (fV 1) (fFld "Codes" "shut" (fV 0))))
def m_Codes_locked_at : List D → Store → Res D := mOf 2 g_Codes_locked_at
def g_Codes_ask : Stm := (sSeq (sIf (fB (f2 gLt (fV 2) (fFld "Codes" "last" (fV 0)))) (sRaise "NoTime") sNil)
    (sSeq (sIf (fB (fMeth "Codes" "locked_at" 2 m_Codes_locked_at (fV 0) (fCons (fV 2) fNil))) (sRaise "Locked") sNil)
    (sSeq (sFldSet "Codes" "last" (fV 0) (fV 2))
    (sSeq (sSet 4 (fMeth "Codes" "who" 2 m_Codes_who (fV 0) (fCons (fV 1) fNil)))
    (sSeq (sIf (fB (f2 (gIs false) (fV 4) (fC .non))) (sSeq (sFldSet "Codes" "misses" (fV 0) (f2 gAdd (fFld "Codes" "misses" (fV 0)) (fC (.int 1))))
    (sSeq (sIf (fB (f2 gGe (fFld "Codes" "misses" (fV 0)) (fFld "Codes" "tries" (fV 0)))) (sSeq (sFldSet "Codes" "misses" (fV 0) (fC (.int 0)))
    (sSeq (sFldSet "Codes" "since" (fV 0) (fV 2))
    (sFldSet "Codes" "shut" (fV 0) (f2 gAdd (fV 2) (fFld "Codes" "rest" (fV 0)))))) sNil)
    (sRaise "Wrong"))) sNil)
    (sSeq (sFldSet "Codes" "misses" (fV 0) (fC (.int 0)))
    (sSeq (sIf (fB (f2 (gInX true) (fV 3) (f2 gIx (f2 gIx (fFld "Codes" "rows" (fV 0)) (fV 4)) (fC (.int 1))))) (sRaise "NoRight") sNil)
    (sRet (fV 4)))))))))
def m_Codes_ask : List D → Store → Res D := mOf 5 g_Codes_ask
def g_law_word (a : Addr) (c : Str) : Stm := (sSeq (sSet 1 (fLst (fCons (fAt 0 a fun S => .ok (.bl (isaX c "NoName")) S) (fCons (fAt 0 a fun S => .ok (.bl (isaX c "NoCode")) S) (fCons (fAt 0 a fun S => .ok (.bl (isaX c "NoRight")) S) (fCons (fAt 0 a fun S => .ok (.bl (isaX c "Taken")) S) fNil))))))
    (sSeq (sSet 1 (f2 gAdd (fV 1) (fLst (fCons (fAt 0 a fun S => .ok (.bl (isaX c "NoTime")) S) (fCons (fAt 0 a fun S => .ok (.bl (isaX c "Locked")) S) (fCons (fAt 0 a fun S => .ok (.bl (isaX c "Wrong")) S) fNil))))))
    (sSeq (sIf (fOr (fB (f2 (gEq true) (fMt gCountT (fV 1) (fCons (fC (.bl true)) fNil)) (fC (.int 1)))) (fNot (fB (fAt 0 a fun S => .ok (.bl true) S)))) (sRet (fTup (fCons (fC (.str "refused")) (fCons (fNeg (fC (.int 1))) fNil)))) sNil)
    (sRet (fTup (fCons (fC (.str "refused")) (fCons (fMt gIndexT (fV 1) (fCons (fC (.bl true)) fNil)) fNil)))))))
def m_law_word (c : Str) : Store → Res D := mOfE 2 0 (g_law_word 0 c)
def g_law_asks : Stm := (sSeq (sIf (fB (f2 gLt (fV 2) (f2 gIx (fV 0) (fC (.str "last"))))) (sRet (fTup (fCons (fC (.str "refused")) (fCons (fC (.int 4)) fNil)))) sNil)
    (sSeq (sIf (fB (fChain gLe gLt (f2 gIx (fV 0) (fC (.str "since"))) (fV 2) (f2 gIx (fV 0) (fC (.str "shut"))))) (sRet (fTup (fCons (fC (.str "refused")) (fCons (fC (.int 5)) fNil)))) sNil)
    (sSeq (sPutC (fV 0) (fC (.str "last")) (fV 2))
    (sSeq (sSet 4 (fLk (refAt (f2 gIx (fV 0) (fC (.str "rows")))) (fFrz (fComp (fItemsC (f2 gIx (fV 0) (fC (.str "rows")))) (tgName 5) (fB (f2 (gEq false) (f2 gIx (f2 gIx (f2 gIx (fV 0) (fC (.str "rows"))) (fV 5)) (fC (.int 0))) (fV 1))) (fV 5) [5]))))
    (sSeq (sIf (fB (f2 (gEq false) (fV 4) (fLst fNil))) (sSeq (sPutC (fV 0) (fC (.str "misses")) (f2 gAdd (f2 gIx (fV 0) (fC (.str "misses"))) (fC (.int 1))))
    (sSeq (sIf (fB (f2 (gEq false) (f2 gIx (fV 0) (fC (.str "misses"))) (f2 gIx (fV 0) (fC (.str "tries"))))) (sAsgS 3 (tgsCons (tgSub (fV 0) (fC (.str "misses"))) (tgsCons (tgSub (fV 0) (fC (.str "since"))) (tgsCons (tgSub (fV 0) (fC (.str "shut"))) tgsNil))) (fTup (fCons (fC (.int 0)) (fCons (fV 2) (fCons (f2 gAdd (fV 2) (f2 gIx (fV 0) (fC (.str "rest")))) fNil))))) sNil)
    (sRet (fTup (fCons (fC (.str "refused")) (fCons (fC (.int 6)) fNil)))))) sNil)
    (sSeq (sPutC (fV 0) (fC (.str "misses")) (fC (.int 0)))
    (sRet (fIf (fB (f2 (gInX false) (fV 3) (f2 gIx (f2 gIx (f2 gIx (fV 0) (fC (.str "rows"))) (f2 gIx (fV 4) (fC (.int 0)))) (fC (.int 1))))) (f2 gIx (fV 4) (fC (.int 0))) (fTup (fCons (fC (.str "refused")) (fCons (fC (.int 2)) fNil)))))))))))
def m_law_asks : List D → Store → Res D := mOf 6 g_law_asks
def g_Codes_names : Stm := (sRet (fN gSortedY (fCons (fFld "Codes" "rows" (fV 0)) fNil)))
def m_Codes_names : List D → Store → Res D := mOf 1 g_Codes_names
end BW
namespace BW
open PySem PySem.Spec PyProof.Rows L2
def XS : List Str := ["NoTime", "NoName", "NoCode", "NoRight", "Taken", "Wrong", "Locked"]
def g_law_wish : Stm := (sSeq (sSet 3 (f2 gIx (fLst (fCons (fC (.str "ann")) (fCons (fC (.str "b")) (fCons (fC (.str "zzzzzz")) (fCons (fC (.str "cy")) fNil))))) (fM 3 m_law_drawn (fCons (fV 0) (fCons (fV 1) (fCons (fC (.int 4)) fNil))))))
    (sSeq (sSet 4 (f2 gIx (fLst (fCons (fC (.str "0000")) (fCons (fC (.str "1234")) (fCons (fC (.str "00000")) (fCons (fC (.str "999999")) fNil))))) (fM 3 m_law_drawn (fCons (fV 0) (fCons (f2 gAdd (fV 1) (fC (.int 1))) (fCons (fC (.int 4)) fNil))))))
    (sSeq (sSet 5 (f2 gIx (fLst (fCons (fC (.str "give")) (fCons (fC (.str "ask")) (fCons (fC (.str "ask")) (fCons (fC (.str "ask")) (fCons (fC (.str "take")) (fCons (fC (.str "give")) (fCons (fC (.str "ask")) fNil)))))))) (fM 3 m_law_drawn (fCons (fV 0) (fCons (f2 gAdd (fV 1) (fC (.int 2))) (fCons (fC (.int 7)) fNil))))))
    (sSeq (sIf (fB (f2 (gEq false) (fV 5) (fC (.str "give")))) (sSeq (sSet 7 (f2 gIx (fLst (fCons (fTup fNil) (fCons (fTup (fCons (fC (.str "lift")) fNil)) (fCons (fTup (fCons (fC (.str "set")) fNil)) (fCons (fTup (fCons (fC (.str "lift")) (fCons (fC (.str "set")) fNil))) fNil))))) (fM 3 m_law_drawn (fCons (fV 0) (fCons (f2 gAdd (fV 1) (fC (.int 3))) (fCons (fC (.int 4)) fNil))))))
    (sSeq (sSet 8 (fM 3 m_law_drawn (fCons (fV 0) (fCons (f2 gAdd (fV 1) (fC (.int 4))) (fCons (fC (.int 12)) fNil)))))
    (sSeq (sIf (fB (f2 (gInX false) (fV 8) (fTup (fCons (fC (.int 0)) (fCons (fC (.int 3)) fNil))))) (sSet 3 (f2 gIx (fLst (fCons (fC (.str "")) (fCons (fC (.str "A")) (fCons (fC (.str "abcdefg")) (fCons (fC .non) (fCons (fC (.int 5)) (fCons (fC (.str "a b")) (fCons (fTup (fCons (fC (.str "ann")) fNil)) fNil)))))))) (fM 3 m_law_drawn (fCons (fV 0) (fCons (f2 gAdd (fV 1) (fC (.int 5))) (fCons (fC (.int 7)) fNil)))))) sNil)
    (sSeq (sIf (fB (f2 (gInX false) (fV 8) (fTup (fCons (fC (.int 1)) (fCons (fC (.int 3)) fNil))))) (sSet 4 (f2 gIx (fLst (fCons (fC (.str "123")) (fCons (fC (.str "1234567")) (fCons (fC (.str "12a4")) (fCons (fC (.int 1234)) (fCons (fC .non) (fCons (fC (.str "")) (fCons (fC (.str " 123")) fNil)))))))) (fM 3 m_law_drawn (fCons (fV 0) (fCons (f2 gAdd (fV 1) (fC (.int 5))) (fCons (fC (.int 7)) fNil)))))) sNil)
    (sSeq (sIf (fB (f2 (gInX false) (fV 8) (fTup (fCons (fC (.int 2)) (fCons (fC (.int 3)) fNil))))) (sSet 7 (f2 gIx (fLst (fCons (fTup (fCons (fC (.str "set")) (fCons (fC (.str "lift")) fNil))) (fCons (fLst (fCons (fC (.str "lift")) fNil)) (fCons (fC .non) (fCons (fTup (fCons (fC (.str "lift")) (fCons (fC (.str "lift")) fNil))) (fCons (fTup (fCons (fC (.str "go")) fNil)) (fCons (fC (.str "lift")) fNil))))))) (fM 3 m_law_drawn (fCons (fV 0) (fCons (f2 gAdd (fV 1) (fC (.int 6))) (fCons (fC (.int 6)) fNil)))))) sNil)
    (sRet (fTup (fCons (fC (.str "give")) (fCons (fV 3) (fCons (fV 4) (fCons (fV 7) fNil))))))))))) sNil)
    (sSeq (sIf (fB (f2 (gEq false) (fV 5) (fC (.str "take")))) (sRet (fTup (fCons (fC (.str "take")) (fCons (fV 3) fNil)))) sNil)
    (sSeq (sSet 6 (f2 gSub (f2 gAdd (f2 gIx (fV 2) (fC (.str "last"))) (f2 gIx (fLst (fCons (fC (.int 0)) (fCons (fC (.int 1)) (fCons (fC (.int 3)) (fCons (fC (.int 20)) fNil))))) (fM 3 m_law_drawn (fCons (fV 0) (fCons (f2 gAdd (fV 1) (fC (.int 3))) (fCons (fC (.int 4)) fNil)))))) (f2 gMulX (fC (.int 2)) (fN gInt (fCons (f2 (gEq false) (fM 3 m_law_drawn (fCons (fV 0) (fCons (f2 gAdd (fV 1) (fC (.int 4))) (fCons (fC (.int 15)) fNil)))) (fC (.int 0))) fNil)))))
    (sSeq (sSet 4 (f2 gIx (fLst (fCons (fV 4) (fCons (fC (.str "4321")) (fCons (fC (.str "8888")) fNil)))) (fM 3 m_law_drawn (fCons (fV 0) (fCons (f2 gAdd (fV 1) (fC (.int 5))) (fCons (fC (.int 3)) fNil))))))
    (sRet (fTup (fCons (fC (.str "ask")) (fCons (fV 4) (fCons (fN gMax (fCons (fC (.int 0)) (fCons (fV 6) fNil))) (fCons (f2 gIx (fLst (fCons (fC (.str "lift")) (fCons (fC (.str "set")) fNil))) (fM 3 m_law_drawn (fCons (fV 0) (fCons (f2 gAdd (fV 1) (fC (.int 6))) (fCons (fC (.int 2)) fNil))))) fNil)))))))))))))
def m_law_wish : List D → Store → Res D := mOf 9 g_law_wish
def b_law_told_1 : Stm := (sSeq (sIf (fB (f2 (gEq false) (f2 gIx (fV 1) (fC (.int 0))) (fC (.str "give")))) (sRet (fMeth "Codes" "give" 4 m_Codes_give (fV 0) (fCons (f2 gIx (fV 1) (fC (.int 1))) (fCons (f2 gIx (fV 1) (fC (.int 2))) (fCons (f2 gIx (fV 1) (fC (.int 3))) fNil))))) sNil)
    (sSeq (sIf (fB (f2 (gEq false) (f2 gIx (fV 1) (fC (.int 0))) (fC (.str "take")))) (sRet (fMeth "Codes" "take" 2 m_Codes_take (fV 0) (fCons (f2 gIx (fV 1) (fC (.int 1))) fNil))) sNil)
    (sRet (fMeth "Codes" "ask" 4 m_Codes_ask (fV 0) (fCons (f2 gIx (fV 1) (fC (.int 1))) (fCons (f2 gIx (fV 1) (fC (.int 2))) (fCons (f2 gIx (fV 1) (fC (.int 3))) fNil)))))))
def g_law_told : Stm := (sTry b_law_told_1 2 XS fun c _ S => m_law_word c S)
def m_law_told : List D → Store → Res D := mOf 3 g_law_told
def g_law_answer : Stm := (sSeq (sIf (fB (f2 (gEq false) (f2 gIx (fV 1) (fC (.int 0))) (fC (.str "ask")))) (sRet (fM 4 m_law_asks (fCons (fV 0) (fCons (f2 gIx (fV 1) (fC (.int 1))) (fCons (f2 gIx (fV 1) (fC (.int 2))) (fCons (f2 gIx (fV 1) (fC (.int 3))) fNil)))))) sNil)
    (sSeq (sSet 2 (f2 gIx (fV 0) (fC (.str "rows"))))
    (sSeq (sIf (fB (f2 (gEq false) (f2 gIx (fV 1) (fC (.int 0))) (fC (.str "take")))) (sRet (fPopC (fV 2) (f2 gIx (fV 1) (fC (.int 1))) (fTup (fCons (fC (.str "refused")) (fCons (fC (.int 0)) fNil))))) sNil)
    (sSeq (sIf (fB (f2 (gInX true) (f2 gIx (fV 1) (fC (.int 1))) (fTup (fCons (fC (.str "ann")) (fCons (fC (.str "b")) (fCons (fC (.str "zzzzzz")) (fCons (fC (.str "cy")) fNil))))))) (sRet (fTup (fCons (fC (.str "refused")) (fCons (fC (.int 0)) fNil)))) sNil)
    (sSeq (sIf (fB (f2 (gInX true) (f2 gIx (fV 1) (fC (.int 2))) (fTup (fCons (fC (.str "0000")) (fCons (fC (.str "1234")) (fCons (fC (.str "00000")) (fCons (fC (.str "999999")) fNil))))))) (sRet (fTup (fCons (fC (.str "refused")) (fCons (fC (.int 1)) fNil)))) sNil)
    (sSeq (sIf (fB (f2 (gInX true) (f2 gIx (fV 1) (fC (.int 3))) (fTup (fCons (fTup fNil) (fCons (fTup (fCons (fC (.str "lift")) fNil)) (fCons (fTup (fCons (fC (.str "set")) fNil)) (fCons (fTup (fCons (fC (.str "lift")) (fCons (fC (.str "set")) fNil))) fNil))))))) (sRet (fTup (fCons (fC (.str "refused")) (fCons (fC (.int 2)) fNil)))) sNil)
    (sSeq (sIf (fOr (fB (f2 (gInX false) (f2 gIx (fV 1) (fC (.int 1))) (fV 2))) (fB (f2 (gInX false) (f2 gIx (fV 1) (fC (.int 2))) (fLk (refAt (fV 2)) (fFrz (fComp (fValsC (fV 2)) (tgName 3) fYes (f2 gIx (fV 3) (fC (.int 0))) [3])))))) (sRet (fTup (fCons (fC (.str "refused")) (fCons (fC (.int 3)) fNil)))) sNil)
    (sSeq (sPutC (fV 2) (f2 gIx (fV 1) (fC (.int 1))) (fCut (fV 1) (oSome (fC (.int 2))) oNone))
    (sRet (fN gLen (fCons (fV 2) fNil)))))))))))
def m_law_answer : List D → Store → Res D := mOf 4 g_law_answer
def b_law_1 : Stm := (sSeq (sSet 9 (fLk (refAt (f2 gIx (fV 2) (fC (.str "rows")))) (fFrz (fComp (fItemsC (f2 gIx (fV 2) (fC (.str "rows")))) (tgName 10) (fB (f2 (gEq false) (f2 gIx (f2 gIx (f2 gIx (fV 2) (fC (.str "rows"))) (fV 10)) (fC (.int 0))) (fV 7))) (fV 10) [10]))))
    (sIf (fB (f2 (gEq true) (fMeth "Codes" "who" 2 m_Codes_who (fV 1) (fCons (fV 7) fNil)) (fIf (fB (f2 (gEq true) (fV 9) (fLst fNil))) (f2 gIx (fV 9) (fC (.int 0))) (fC .non)))) (sRet (fC (.bl false))) sNil))
def b_law_2 : Stm := (sIf (fB (f2 (gEq true) (fMeth "Codes" "locked_at" 2 m_Codes_locked_at (fV 1) (fCons (fV 8) fNil)) (fChain gLe gLt (f2 gIx (fV 2) (fC (.str "since"))) (fV 8) (f2 gIx (fV 2) (fC (.str "shut")))))) (sRet (fC (.bl false))) sNil)
def b_law_3 : Stm := (sSeq (sSet 6 (fM 3 m_law_wish (fCons (fV 0) (fCons (f2 gAdd (fC (.int 10)) (f2 gMulX (fC (.int 8)) (fV 3))) (fCons (fV 2) fNil)))))
    (sSeq (sIf (fB (f2 (gEq true) (fM 2 m_law_told (fCons (fV 1) (fCons (fV 6) fNil))) (fM 2 m_law_answer (fCons (fV 2) (fCons (fV 6) fNil))))) (sRet (fC (.bl false))) sNil)
    (sSeq (sIf (fB (f2 (gEq true) (fMeth "Codes" "names" 1 m_Codes_names (fV 1) fNil) (fSortK (f2 gIx (fV 2) (fC (.str "rows")))))) (sRet (fC (.bl false))) sNil)
    (sSeq (sFor (fItems (fTup (fCons (fC (.str "0000")) (fCons (fC (.str "1234")) (fCons (fC (.str "00000")) (fCons (fC (.str "999999")) (fCons (fC (.str "7777")) fNil))))))) (tgName 7) b_law_1)
    (sFor (fItems (fTup (fCons (f2 gIx (fV 2) (fC (.str "last"))) (fCons (f2 gIx (fV 2) (fC (.str "shut"))) (fCons (fN gMax (fCons (fC (.int 0)) (fCons (f2 gSub (f2 gIx (fV 2) (fC (.str "shut"))) (fC (.int 1))) fNil))) (fCons (f2 gAdd (f2 gIx (fV 2) (fC (.str "last"))) (fC (.int 30))) fNil)))))) (tgName 8) b_law_2)))))
def g_law : Stm := (sSeq (sPar 4 5 (fCons (f2 gAdd (fC (.int 1)) (fM 3 m_law_drawn (fCons (fV 0) (fCons (fC (.int 0)) (fCons (fC (.int 4)) fNil))))) (fCons (f2 gAdd (fC (.int 1)) (fM 3 m_law_drawn (fCons (fV 0) (fCons (fC (.int 1)) (fCons (fC (.int 25)) fNil))))) fNil)))
    (sSeq (sSet 1 (fMake "Codes" 3 m_Codes_init (fCons (fV 4) (fCons (fV 5) fNil))))
    (sSeq (sSet 2 (fM 2 m_law_codes (fCons (fV 4) (fCons (fV 5) fNil))))
    (sSeq (sFor (fI kRng1 (fCons (fN gMax (fCons (fC (.int 1)) (fCons (fN gMin (fCons (fC (.int 24)) (fCons (fN gLen (fCons (fV 0) fNil)) fNil))) fNil))) fNil)) (tgName 3) b_law_3)
    (sRet (fC (.bl true)))))))
def m_law : List D → Store → Res D := mOf 11 g_law
end BW
namespace BW
open PySem PySem.Spec PyProof.Rows L2
def topS (i : Nat) : Stmt := PySem.Challenge.pw_boltwatch_k40_codes.main.body.getD i (.Pass ⟨0, 0, 0, 0⟩)
def YS : List Str := ["Taken", "NoRight", "NoCode", "NoName", "Wrong", "Locked", "NoTime"]
structure Ct (K : PySem.W.Frag) (mg : Str → Option Value) (cl : Str → Addr) : Prop where
  c_LETTERS : ∃ t, mg "LETTERS" = some (.str "abcdefghijklmnopqrstuvwxyz" t)
  c_FIGURES : ∃ t, mg "FIGURES" = some (.str "0123456789" t)
  c_RIGHTS : ∃ a, mg "RIGHTS" = some (.ref a) ∧ ∀ w, R K w (.ref a) (.tup [(.str "lift"), (.str "set")])
  x_BoltError : XcOk K mg cl "BoltError"
  x_NoTime : XcOk K mg cl "NoTime"
  x_NoName : XcOk K mg cl "NoName"
  x_NoCode : XcOk K mg cl "NoCode"
  x_NoRight : XcOk K mg cl "NoRight"
  x_Taken : XcOk K mg cl "Taken"
  x_Wrong : XcOk K mg cl "Wrong"
  x_Locked : XcOk K mg cl "Locked"
  ec : ∀ c ∈ XS, ExcC K (cl c)
  isa : ∀ c ∈ XS, ∀ d ∈ YS, PySem.W.kitOne K (.ref (cl c)) (.ref (cl d)) = some (isaX c d)
  isv : ∀ c ∈ XS, PySem.W.kitOne K (.ref (cl c)) (.type "ValueError") = some true
  exm : ∀ c ∈ XS, PySem.W.exmOne K (.ref (cl c)) (.ref (cl "BoltError")) = some true
  noVE : mg "ValueError" = none
  k_Codes : ClsOk K cl "Codes" ["tries", "rest", "rows", "misses", "since", "shut", "last"]
  triv : True
theorem fAt_set {α : Type} {i : Nat} {a : Addr} {r : Store → Res α} {ρ : BW.Env} {S : Store} (h : i < ρ.length) : fAt i a r (ρ.set i (some (.adr a))) S = r S := by
  unfold fAt
  rw [List.getElem?_set_self h]
  simp
section
variable {P : Program} {w : World} {K : PySem.W.Frag} {mg : Str → Option Value} {base : Heap} {cl : Str → Addr}
abbrev st_law_cell : Stmt := topS 18
abbrev nm_law_cell : List Str := ["script", "k"]
def ss_law_cell : Scope := scp [(("script" : Str), NameKind.local), (("k" : Str), NameKind.local), (("len" : Str), NameKind.globalImplicit)] []
theorem sc_law_cell : FnScope nm_law_cell ["script", "k"] ss_law_cell := ⟨rfl, rfl, rfl, by decide +kernel, rfl, by decide +kernel, by decide +kernel⟩
theorem fn_law_cell {f : Addr} {fd : FuncData} (F : Fun K "_law_cell" "_law_cell" st_law_cell f fd) (B : Bt mg) (C : Ct K mg cl) : FnOk P w K mg base (L2.CX P w) 1 f fd ["script", "k"] (spM K cl 2 m_law_cell) :=
  Fun.fn (k := 0) (g := g_law_cell) F (by rfl) (sc := ss_law_cell) (by rfl) (by rfl) sc_law_cell fun cdv A outer s H E e hr => by
    refine dss_cons ?_ ?_
    · refine ds_if ?_ ?_ ?_
      · exact (dt_cmp (o_eq (u64 hr)) (de_v 0 (pv 0)) (de_lst da_nil) (nomark _))
      · refine dss_one ?_
        refine ds_ret ?_
        exact (de_bin o_mulX de_int (de_v 1 (pv 1)))
      · exact dss_nil
    refine dss_one ?_
    refine ds_ret ?_
    exact (de_bin o_add (de_ix (u1 hr) (de_v 0 (pv 0)) (de_bin o_mod (de_v 1 (pv 1)) (de_callB c_len (by exact rfl) B.len bb_len (da_cons (de_v 0 (pv 0)) da_nil)))) (de_bin o_mulX de_int (de_bin o_fdiv (de_v 1 (pv 1)) (de_callB c_len (by exact rfl) B.len bb_len (da_cons (de_v 0 (pv 0)) da_nil)))))
theorem ok_law_cell {f : Addr} {fd : FuncData} (F : Fun K "_law_cell" "_law_cell" st_law_cell f fd) (hb : Binds K fd ["script", "k"] []) (hm : mg "_law_cell" = some (.ref f)) (B : Bt mg) (C : Ct K mg cl) : Df P w K mg base cl 1 "_law_cell" ["script", "k"] m_law_cell :=
  ⟨f, fd, fn_law_cell F B C, hm, F.kp, hb⟩
abbrev st_law_drawn : Stmt := topS 19
abbrev nm_law_drawn : List Str := ["script", "k", "many", "cell"]
def ss_law_drawn : Scope := scp [(("script" : Str), NameKind.local), (("k" : Str), NameKind.local), (("many" : Str), NameKind.local), (("cell" : Str), NameKind.local), (("_law_cell" : Str), NameKind.globalImplicit)] []
theorem sc_law_drawn : FnScope nm_law_drawn ["script", "k", "many"] ss_law_drawn := ⟨rfl, rfl, rfl, by decide +kernel, rfl, by decide +kernel, by decide +kernel⟩
theorem fn_law_drawn {f : Addr} {fd : FuncData} (F : Fun K "_law_drawn" "_law_drawn" st_law_drawn f fd) (B : Bt mg) (C : Ct K mg cl) (d_law_cell : Df P w K mg base cl 1 "_law_cell" ["script", "k"] m_law_cell) : FnOk P w K mg base (L2.CX P w) 2 f fd ["script", "k", "many"] (spM K cl 3 m_law_drawn) :=
  Fun.fn (k := 1) (g := g_law_drawn) F (by rfl) (sc := ss_law_drawn) (by rfl) (by rfl) sc_law_drawn fun cdv A outer s H E e hr => by
    refine dss_cons ?_ ?_
    · refine ds_set (i := 3) sc_law_drawn.nd (by exact rfl) (by exact (Or.inl rfl)) ?_
      exact (de_bin o_mod (de_bin o_add (de_bin o_mulX (de_bin o_mod (de_call d_law_cell hr (by decide) (by exact rfl) (by exact takes_of rfl rfl rfl rfl) (da_cons (de_v 0 (pv 0)) (da_cons (de_v 1 (pv 1)) da_nil))) de_int) de_int) (de_bin o_mulX de_int (de_bin o_add (de_v 1 (pv 1)) de_int))) de_int)
    refine dss_cons ?_ ?_
    · refine ds_set (i := 3) sc_law_drawn.nd (by exact rfl) (by exact (Or.inl rfl)) ?_
      exact (de_bin o_mod (de_bin o_add (de_bin o_mulX (de_v 3 (pv 3)) (de_v 3 (pv 3))) (de_bin o_fdiv (de_v 3 (pv 3)) de_int)) de_int)
    refine dss_one ?_
    refine ds_ret ?_
    exact (de_bin o_mod (de_bin o_fdiv (de_bin o_mod (de_bin o_add (de_bin o_mulX (de_v 3 (pv 3)) (de_v 3 (pv 3))) (de_bin o_fdiv (de_v 3 (pv 3)) de_int)) de_int) de_int) (de_v 2 (pv 2)))
theorem ok_law_drawn {f : Addr} {fd : FuncData} (F : Fun K "_law_drawn" "_law_drawn" st_law_drawn f fd) (hb : Binds K fd ["script", "k", "many"] []) (hm : mg "_law_drawn" = some (.ref f)) (B : Bt mg) (C : Ct K mg cl) (d_law_cell : Df P w K mg base cl 1 "_law_cell" ["script", "k"] m_law_cell) : Df P w K mg base cl 2 "_law_drawn" ["script", "k", "many"] m_law_drawn :=
  ⟨f, fd, fn_law_drawn F B C d_law_cell, hm, F.kp, hb⟩
abbrev st_Codes_init : Stmt := inClass (topS 16) 0
abbrev nm_Codes_init : List Str := ["self", "tries", "rest"]
def ss_Codes_init : Scope := scp [(("self" : Str), NameKind.local), (("tries" : Str), NameKind.local), (("rest" : Str), NameKind.local)] []
theorem sc_Codes_init : FnScope nm_Codes_init ["self", "tries", "rest"] ss_Codes_init := ⟨rfl, rfl, rfl, by decide +kernel, rfl, by decide +kernel, by decide +kernel⟩
theorem fn_Codes_init {f : Addr} {fd : FuncData} (F : Fun K "__init__" "Codes.__init__" st_Codes_init f fd) (B : Bt mg) (C : Ct K mg cl) : FnOk P w K mg base (L2.CX P w) 1 f fd ["self", "tries", "rest"] (spM K cl 3 m_Codes_init) :=
  Fun.fn (k := 0) (g := g_Codes_init) F (by rfl) (sc := ss_Codes_init) (by rfl) (by rfl) sc_Codes_init fun cdv A outer s H E e hr => by
    refine dss_cons ?_ ?_
    · exact ds_fld C.k_Codes (by decide) (de_v 0 (pv 0)) (de_v 1 (pv 1))
    refine dss_cons ?_ ?_
    · exact ds_fld C.k_Codes (by decide) (de_v 0 (pv 0)) (de_v 2 (pv 2))
    refine dss_cons ?_ ?_
    · exact ds_fld C.k_Codes (by decide) (de_v 0 (pv 0)) de_dic0
    refine dss_cons ?_ ?_
    · exact ds_fld C.k_Codes (by decide) (de_v 0 (pv 0)) de_int
    refine dss_cons ?_ ?_
    · exact ds_fld C.k_Codes (by decide) (de_v 0 (pv 0)) de_int
    refine dss_cons ?_ ?_
    · exact ds_fld C.k_Codes (by decide) (de_v 0 (pv 0)) de_int
    refine dss_one ?_
    exact ds_fld C.k_Codes (by decide) (de_v 0 (pv 0)) de_int
theorem ok_Codes_init {f : Addr} {fd : FuncData} (F : Fun K "__init__" "Codes.__init__" st_Codes_init f fd) (hb : Binds K fd ["self", "tries", "rest"] []) (hm : Mk K (cl "Codes") f) (hg : mg "Codes" = some (.ref (cl "Codes"))) (B : Bt mg) (C : Ct K mg cl) : DfC P w K mg base cl 1 "Codes" ["self", "tries", "rest"] m_Codes_init :=
  ⟨f, fd, hm, fn_Codes_init F B C, hg, hb⟩
abbrev st_law_codes : Stmt := topS 22
abbrev nm_law_codes : List Str := ["tries", "rest"]
def ss_law_codes : Scope := scp [(("tries" : Str), NameKind.local), (("rest" : Str), NameKind.local)] []
theorem sc_law_codes : FnScope nm_law_codes ["tries", "rest"] ss_law_codes := ⟨rfl, rfl, rfl, by decide +kernel, rfl, by decide +kernel, by decide +kernel⟩
theorem fn_law_codes {f : Addr} {fd : FuncData} (F : Fun K "_law_codes" "_law_codes" st_law_codes f fd) (B : Bt mg) (C : Ct K mg cl) : FnOk P w K mg base (L2.CX P w) 1 f fd ["tries", "rest"] (spM K cl 2 m_law_codes) :=
  Fun.fn (k := 0) (g := g_law_codes) F (by rfl) (sc := ss_law_codes) (by rfl) (by rfl) sc_law_codes fun cdv A outer s H E e hr => by
    refine dss_one ?_
    refine ds_ret ?_
    exact (de_newD (dp_cons (de_v 0 (pv 0)) (dp_cons (de_v 1 (pv 1)) (dp_cons de_newD0 (dp_cons de_int (dp_cons de_int (dp_cons de_int (dp_cons de_int dp_nil))))))))
theorem ok_law_codes {f : Addr} {fd : FuncData} (F : Fun K "_law_codes" "_law_codes" st_law_codes f fd) (hb : Binds K fd ["tries", "rest"] []) (hm : mg "_law_codes" = some (.ref f)) (B : Bt mg) (C : Ct K mg cl) : Df P w K mg base cl 1 "_law_codes" ["tries", "rest"] m_law_codes :=
  ⟨f, fd, fn_law_codes F B C, hm, F.kp, hb⟩
abbrev st_law_wish : Stmt := topS 25
abbrev nm_law_wish : List Str := ["script", "at", "own", "name", "code", "word", "moment", "rights", "spoilt"]
def ss_law_wish : Scope := scp [(("script" : Str), NameKind.local), (("at" : Str), NameKind.local), (("own" : Str), NameKind.local), (("name" : Str), NameKind.local), (("code" : Str), NameKind.local), (("word" : Str), NameKind.local), (("rights" : Str), NameKind.local), (("spoilt" : Str), NameKind.local), (("moment" : Str), NameKind.local), (("_law_drawn" : Str), NameKind.globalImplicit), (("int" : Str), NameKind.globalImplicit), (("max" : Str), NameKind.globalImplicit)] []
theorem sc_law_wish : FnScope nm_law_wish ["script", "at", "own"] ss_law_wish := ⟨rfl, rfl, rfl, by decide +kernel, rfl, by decide +kernel, by decide +kernel⟩
theorem fn_law_wish {f : Addr} {fd : FuncData} (F : Fun K "_law_wish" "_law_wish" st_law_wish f fd) (B : Bt mg) (C : Ct K mg cl) (d_law_drawn : Df P w K mg base cl 2 "_law_drawn" ["script", "k", "many"] m_law_drawn) : FnOk P w K mg base (L2.CX P w) 3 f fd ["script", "at", "own"] (spM K cl 3 m_law_wish) :=
  Fun.fn (k := 2) (g := g_law_wish) F (by rfl) (sc := ss_law_wish) (by rfl) (by rfl) sc_law_wish fun cdv A outer s H E e hr => by
    refine dss_cons ?_ ?_
    · refine ds_set (i := 3) sc_law_wish.nd (by exact rfl) (by exact (Or.inl rfl)) ?_
      exact (de_ix (u1 hr) (de_lst (da_cons de_str (da_cons de_str (da_cons de_str (da_cons de_str da_nil))))) (de_call d_law_drawn hr (by decide) (by exact rfl) (by exact takes_of rfl rfl rfl rfl) (da_cons (de_v 0 (pv 0)) (da_cons (de_v 1 (pv 1)) (da_cons de_int da_nil)))))
    refine dss_cons ?_ ?_
    · refine ds_set (i := 4) sc_law_wish.nd (by exact rfl) (by exact (Or.inl rfl)) ?_
      exact (de_ix (u1 hr) (de_lst (da_cons de_str (da_cons de_str (da_cons de_str (da_cons de_str da_nil))))) (de_call d_law_drawn hr (by decide) (by exact rfl) (by exact takes_of rfl rfl rfl rfl) (da_cons (de_v 0 (pv 0)) (da_cons (de_bin o_add (de_v 1 (pv 1)) de_int) (da_cons de_int da_nil)))))
    refine dss_cons ?_ ?_
    · refine ds_set (i := 5) sc_law_wish.nd (by exact rfl) (by exact (Or.inl rfl)) ?_
      exact (de_ix (u1 hr) (de_lst (da_cons de_str (da_cons de_str (da_cons de_str (da_cons de_str (da_cons de_str (da_cons de_str (da_cons de_str da_nil)))))))) (de_call d_law_drawn hr (by decide) (by exact rfl) (by exact takes_of rfl rfl rfl rfl) (da_cons (de_v 0 (pv 0)) (da_cons (de_bin o_add (de_v 1 (pv 1)) de_int) (da_cons de_int da_nil)))))
    refine dss_cons ?_ ?_
    · refine ds_if ?_ ?_ ?_
      · exact (dt_cmp (o_eq (u64 hr)) (de_v 5 (pv 5)) de_str (nomark _))
      · refine dss_cons ?_ ?_
        · refine ds_set (i := 7) sc_law_wish.nd (by exact rfl) (by exact (Or.inl rfl)) ?_
          exact (de_ix (u1 hr) (de_lst (da_cons (de_tup da_nil) (da_cons (de_tup (da_cons de_str da_nil)) (da_cons (de_tup (da_cons de_str da_nil)) (da_cons (de_tup (da_cons de_str (da_cons de_str da_nil))) da_nil))))) (de_call d_law_drawn hr (by decide) (by exact rfl) (by exact takes_of rfl rfl rfl rfl) (da_cons (de_v 0 (pv 0)) (da_cons (de_bin o_add (de_v 1 (pv 1)) de_int) (da_cons de_int da_nil)))))
        refine dss_cons ?_ ?_
        · refine ds_set (i := 8) sc_law_wish.nd (by exact rfl) (by exact (Or.inl rfl)) ?_
          exact (de_call d_law_drawn hr (by decide) (by exact rfl) (by exact takes_of rfl rfl rfl rfl) (da_cons (de_v 0 (pv 0)) (da_cons (de_bin o_add (de_v 1 (pv 1)) de_int) (da_cons de_int da_nil))))
        refine dss_cons ?_ ?_
        · refine ds_if ?_ ?_ ?_
          · exact (dt_cmp (o_inX (u65 hr)) (de_v 8 (pv 8)) (de_tup (da_cons de_int (da_cons de_int da_nil))) (by exact rfl))
          · refine dss_one ?_
            refine ds_set (i := 3) sc_law_wish.nd (by exact rfl) (by exact (Or.inl rfl)) ?_
            exact (de_ix (u1 hr) (de_lst (da_cons de_str (da_cons de_str (da_cons de_str (da_cons de_non (da_cons de_int (da_cons de_str (da_cons (de_tup (da_cons de_str da_nil)) da_nil)))))))) (de_call d_law_drawn hr (by decide) (by exact rfl) (by exact takes_of rfl rfl rfl rfl) (da_cons (de_v 0 (pv 0)) (da_cons (de_bin o_add (de_v 1 (pv 1)) de_int) (da_cons de_int da_nil)))))
          · exact dss_nil
        refine dss_cons ?_ ?_
        · refine ds_if ?_ ?_ ?_
          · exact (dt_cmp (o_inX (u65 hr)) (de_v 8 (pv 8)) (de_tup (da_cons de_int (da_cons de_int da_nil))) (by exact rfl))
          · refine dss_one ?_
            refine ds_set (i := 4) sc_law_wish.nd (by exact rfl) (by exact (Or.inl rfl)) ?_
            exact (de_ix (u1 hr) (de_lst (da_cons de_str (da_cons de_str (da_cons de_str (da_cons de_int (da_cons de_non (da_cons de_str (da_cons de_str da_nil)))))))) (de_call d_law_drawn hr (by decide) (by exact rfl) (by exact takes_of rfl rfl rfl rfl) (da_cons (de_v 0 (pv 0)) (da_cons (de_bin o_add (de_v 1 (pv 1)) de_int) (da_cons de_int da_nil)))))
          · exact dss_nil
        refine dss_cons ?_ ?_
        · refine ds_if ?_ ?_ ?_
          · exact (dt_cmp (o_inX (u65 hr)) (de_v 8 (pv 8)) (de_tup (da_cons de_int (da_cons de_int da_nil))) (by exact rfl))
          · refine dss_one ?_
            refine ds_set (i := 7) sc_law_wish.nd (by exact rfl) (by exact (Or.inl rfl)) ?_
            exact (de_ix (u1 hr) (de_lst (da_cons (de_tup (da_cons de_str (da_cons de_str da_nil))) (da_cons (de_lst (da_cons de_str da_nil)) (da_cons de_non (da_cons (de_tup (da_cons de_str (da_cons de_str da_nil))) (da_cons (de_tup (da_cons de_str da_nil)) (da_cons de_str da_nil))))))) (de_call d_law_drawn hr (by decide) (by exact rfl) (by exact takes_of rfl rfl rfl rfl) (da_cons (de_v 0 (pv 0)) (da_cons (de_bin o_add (de_v 1 (pv 1)) de_int) (da_cons de_int da_nil)))))
          · exact dss_nil
        refine dss_one ?_
        refine ds_ret ?_
        exact (de_tup (da_cons de_str (da_cons (de_v 3 (pv 3)) (da_cons (de_v 4 (pv 4)) (da_cons (de_v 7 (pv 7)) da_nil)))))
      · exact dss_nil
    refine dss_cons ?_ ?_
    · refine ds_if ?_ ?_ ?_
      · exact (dt_cmp (o_eq (u64 hr)) (de_v 5 (pv 5)) de_str (nomark _))
      · refine dss_one ?_
        refine ds_ret ?_
        exact (de_tup (da_cons de_str (da_cons (de_v 3 (pv 3)) da_nil)))
      · exact dss_nil
    refine dss_cons ?_ ?_
    · refine ds_set (i := 6) sc_law_wish.nd (by exact rfl) (by exact (Or.inl rfl)) ?_
      exact (de_bin o_sub (de_bin o_add (de_ix (u1 hr) (de_v 2 (pv 2)) de_str) (de_ix (u1 hr) (de_lst (da_cons de_int (da_cons de_int (da_cons de_int (da_cons de_int da_nil))))) (de_call d_law_drawn hr (by decide) (by exact rfl) (by exact takes_of rfl rfl rfl rfl) (da_cons (de_v 0 (pv 0)) (da_cons (de_bin o_add (de_v 1 (pv 1)) de_int) (da_cons de_int da_nil)))))) (de_bin o_mulX de_int (de_callTy c_int (by exact rfl) B.int bb_int (da_cons (de_cmp (o_eq (u64 hr)) (de_call d_law_drawn hr (by decide) (by exact rfl) (by exact takes_of rfl rfl rfl rfl) (da_cons (de_v 0 (pv 0)) (da_cons (de_bin o_add (de_v 1 (pv 1)) de_int) (da_cons de_int da_nil)))) de_int (nomark _)) da_nil))))
    refine dss_cons ?_ ?_
    · refine ds_set (i := 4) sc_law_wish.nd (by exact rfl) (by exact (Or.inl rfl)) ?_
      exact (de_ix (u1 hr) (de_lst (da_cons (de_v 4 (pv 4)) (da_cons de_str (da_cons de_str da_nil)))) (de_call d_law_drawn hr (by decide) (by exact rfl) (by exact takes_of rfl rfl rfl rfl) (da_cons (de_v 0 (pv 0)) (da_cons (de_bin o_add (de_v 1 (pv 1)) de_int) (da_cons de_int da_nil)))))
    refine dss_one ?_
    refine ds_ret ?_
    exact (de_tup (da_cons de_str (da_cons (de_v 4 (pv 4)) (da_cons (de_callB (c_max (by exact rfl)) (by exact rfl) B.max bb_max (da_cons de_int (da_cons (de_v 6 (pv 6)) da_nil))) (da_cons (de_ix (u1 hr) (de_lst (da_cons de_str (da_cons de_str da_nil))) (de_call d_law_drawn hr (by decide) (by exact rfl) (by exact takes_of rfl rfl rfl rfl) (da_cons (de_v 0 (pv 0)) (da_cons (de_bin o_add (de_v 1 (pv 1)) de_int) (da_cons de_int da_nil))))) da_nil)))))
theorem ok_law_wish {f : Addr} {fd : FuncData} (F : Fun K "_law_wish" "_law_wish" st_law_wish f fd) (hb : Binds K fd ["script", "at", "own"] []) (hm : mg "_law_wish" = some (.ref f)) (B : Bt mg) (C : Ct K mg cl) (d_law_drawn : Df P w K mg base cl 2 "_law_drawn" ["script", "k", "many"] m_law_drawn) : Df P w K mg base cl 3 "_law_wish" ["script", "at", "own"] m_law_wish :=
  ⟨f, fd, fn_law_wish F B C d_law_drawn, hm, F.kp, hb⟩
abbrev st_is_name : Stmt := topS 13
abbrev nm_is_name : List Str := ["thing", "sign"]
def ss_is_name : Scope := scp [(("thing" : Str), NameKind.local), (("isinstance" : Str), NameKind.globalImplicit), (("str" : Str), NameKind.globalImplicit), (("len" : Str), NameKind.globalImplicit), (("all" : Str), NameKind.globalImplicit)] [(("fast" : Str), Const.str "thing"), (("fast" : Str), Const.str "sign")]
theorem sc_is_name : FnScope nm_is_name ["thing"] ss_is_name := ⟨rfl, rfl, rfl, by decide +kernel, rfl, by decide +kernel, by decide +kernel⟩
theorem fn_is_name {f : Addr} {fd : FuncData} (F : Fun K "is_name" "is_name" st_is_name f fd) (B : Bt mg) (C : Ct K mg cl) : FnOk P w K mg base (L2.CX P w) 1 f fd ["thing"] (spM K cl 1 m_is_name) :=
  Fun.fn (k := 0) (g := g_is_name) F (by rfl) (sc := ss_is_name) (by rfl) (by rfl) sc_is_name fun cdv A outer s H E e hr => by
    refine dss_one ?_
    refine ds_ret ?_
    exact (de_and (de_isi isT_str (de_v 0 (pv 0)) (by exact rfl) B.isinstance (by exact rfl) B.str bb_str) (de_and (de_chain o_le o_le de_int (de_callB c_len (by exact rfl) B.len bb_len (da_cons (de_v 0 (pv 0)) da_nil)) de_int) (de_one (de_callB (c_all (by exact rfl)) (by exact rfl) B.all bb_all (da_cons (DL.de (dl_comp (by exact rfl) sc_is_name.nd (di_seq (de_v 0 (pv 0))) (by exact blkOk_by (N := nm_is_name) (sc := ss_is_name) (own := [("sign", 1)]) (by decide +kernel)) (fun _ _ _ _ _ => (eg_name (i := 1) (by decide) sc_is_name.nd (by exact rfl) (by first | exact Or.inl rfl | exact Or.inr rfl))) (fun _ _ _ _ _ => dts_nil) (fun _ _ _ _ _ => (de_cmp (o_inX (u65 hr)) (de_v 1 (pv 1)) (de_gstr' (by exact rfl) C.c_LETTERS) (by exact rfl))))) da_nil)))))
theorem ok_is_name {f : Addr} {fd : FuncData} (F : Fun K "is_name" "is_name" st_is_name f fd) (hb : Binds K fd ["thing"] []) (hm : mg "is_name" = some (.ref f)) (B : Bt mg) (C : Ct K mg cl) : Df P w K mg base cl 1 "is_name" ["thing"] m_is_name :=
  ⟨f, fd, fn_is_name F B C, hm, F.kp, hb⟩
abbrev st_is_code : Stmt := topS 14
abbrev nm_is_code : List Str := ["thing", "sign"]
def ss_is_code : Scope := scp [(("thing" : Str), NameKind.local), (("isinstance" : Str), NameKind.globalImplicit), (("str" : Str), NameKind.globalImplicit), (("len" : Str), NameKind.globalImplicit), (("all" : Str), NameKind.globalImplicit)] [(("fast" : Str), Const.str "thing"), (("fast" : Str), Const.str "sign")]
theorem sc_is_code : FnScope nm_is_code ["thing"] ss_is_code := ⟨rfl, rfl, rfl, by decide +kernel, rfl, by decide +kernel, by decide +kernel⟩
theorem fn_is_code {f : Addr} {fd : FuncData} (F : Fun K "is_code" "is_code" st_is_code f fd) (B : Bt mg) (C : Ct K mg cl) : FnOk P w K mg base (L2.CX P w) 1 f fd ["thing"] (spM K cl 1 m_is_code) :=
  Fun.fn (k := 0) (g := g_is_code) F (by rfl) (sc := ss_is_code) (by rfl) (by rfl) sc_is_code fun cdv A outer s H E e hr => by
    refine dss_one ?_
    refine ds_ret ?_
    exact (de_and (de_isi isT_str (de_v 0 (pv 0)) (by exact rfl) B.isinstance (by exact rfl) B.str bb_str) (de_and (de_chain o_le o_le de_int (de_callB c_len (by exact rfl) B.len bb_len (da_cons (de_v 0 (pv 0)) da_nil)) de_int) (de_one (de_callB (c_all (by exact rfl)) (by exact rfl) B.all bb_all (da_cons (DL.de (dl_comp (by exact rfl) sc_is_code.nd (di_seq (de_v 0 (pv 0))) (by exact blkOk_by (N := nm_is_code) (sc := ss_is_code) (own := [("sign", 1)]) (by decide +kernel)) (fun _ _ _ _ _ => (eg_name (i := 1) (by decide) sc_is_code.nd (by exact rfl) (by first | exact Or.inl rfl | exact Or.inr rfl))) (fun _ _ _ _ _ => dts_nil) (fun _ _ _ _ _ => (de_cmp (o_inX (u65 hr)) (de_v 1 (pv 1)) (de_gstr' (by exact rfl) C.c_FIGURES) (by exact rfl))))) da_nil)))))
theorem ok_is_code {f : Addr} {fd : FuncData} (F : Fun K "is_code" "is_code" st_is_code f fd) (hb : Binds K fd ["thing"] []) (hm : mg "is_code" = some (.ref f)) (B : Bt mg) (C : Ct K mg cl) : Df P w K mg base cl 1 "is_code" ["thing"] m_is_code :=
  ⟨f, fd, fn_is_code F B C, hm, F.kp, hb⟩
abbrev st_are_rights : Stmt := topS 15
abbrev nm_are_rights : List Str := ["thing"]
def ss_are_rights : Scope := scp [(("thing" : Str), NameKind.local), (("isinstance" : Str), NameKind.globalImplicit), (("tuple" : Str), NameKind.globalImplicit), (("RIGHTS" : Str), NameKind.globalImplicit)] []
theorem sc_are_rights : FnScope nm_are_rights ["thing"] ss_are_rights := ⟨rfl, rfl, rfl, by decide +kernel, rfl, by decide +kernel, by decide +kernel⟩
theorem fn_are_rights {f : Addr} {fd : FuncData} (F : Fun K "are_rights" "are_rights" st_are_rights f fd) (B : Bt mg) (C : Ct K mg cl) : FnOk P w K mg base (L2.CX P w) 1 f fd ["thing"] (spM K cl 1 m_are_rights) :=
  Fun.fn (k := 0) (g := g_are_rights) F (by rfl) (sc := ss_are_rights) (by rfl) (by rfl) sc_are_rights fun cdv A outer s H E e hr => by
    refine dss_one ?_
    refine ds_ret ?_
    exact (de_and (de_isi isT_tup (de_v 0 (pv 0)) (by exact rfl) B.isinstance (by exact rfl) B.tuple bb_tuple) (de_one (de_cmp (o_inX (u65 hr)) (de_v 0 (pv 0)) (de_tup (da_cons (de_tup da_nil) (da_cons (de_tup (da_cons de_str da_nil)) (da_cons (de_tup (da_cons de_str da_nil)) (da_cons (de_gtup' (by exact rfl) C.c_RIGHTS) da_nil))))) (by exact rfl))))
theorem ok_are_rights {f : Addr} {fd : FuncData} (F : Fun K "are_rights" "are_rights" st_are_rights f fd) (hb : Binds K fd ["thing"] []) (hm : mg "are_rights" = some (.ref f)) (B : Bt mg) (C : Ct K mg cl) : Df P w K mg base cl 1 "are_rights" ["thing"] m_are_rights :=
  ⟨f, fd, fn_are_rights F B C, hm, F.kp, hb⟩
abbrev st_Codes_who : Stmt := inClass (topS 16) 3
abbrev nm_Codes_who : List Str := ["self", "code", "some", "name"]
def ss_Codes_who : Scope := scp [(("self" : Str), NameKind.cell), (("code" : Str), NameKind.cell), (("some" : Str), NameKind.local)] [(("fast" : Str), Const.str "self"), (("fast" : Str), Const.str "code"), (("fast" : Str), Const.str "name"), (("fast" : Str), Const.str "some")]
theorem sc_Codes_who : FnScope nm_Codes_who ["self", "code"] ss_Codes_who := ⟨rfl, rfl, rfl, by decide +kernel, rfl, by decide +kernel, by decide +kernel⟩
theorem fn_Codes_who {f : Addr} {fd : FuncData} (F : Fun K "who" "Codes.who" st_Codes_who f fd) (B : Bt mg) (C : Ct K mg cl) : FnOk P w K mg base (L2.CX P w) 1 f fd ["self", "code"] (spM K cl 2 m_Codes_who) :=
  Fun.fn (k := 0) (g := g_Codes_who) F (by rfl) (sc := ss_Codes_who) (by rfl) (by rfl) sc_Codes_who fun cdv A outer s H E e hr => by
    refine dss_cons ?_ ?_
    · exact ds_setLc (i := 2) (by exact rfl) sc_Codes_who.nd (by exact rfl) (by exact rfl) (by exact sw_true rfl rfl rfl (by decide +kernel)) (di_seq (de_fld C.k_Codes (by decide) (de_v 0 (pv 0)))) (by exact blkOk_by (N := nm_Codes_who) (sc := ss_Codes_who) (own := [("name", 3)]) (by decide +kernel)) (fun _ _ _ _ _ => (eg_name (i := 3) (by decide) sc_Codes_who.nd (by exact rfl) (by first | exact Or.inl rfl | exact Or.inr rfl))) (fun _ _ _ _ _ => (dts_one (dt_cmp (o_eq (u64 hr)) (de_ix (u1 hr) (de_ix (u1 hr) (de_fld C.k_Codes (by decide) (de_v 0 (pv 0))) (de_v 3 (pv 3))) de_int) (de_v 1 (pv 1)) (nomark _)))) (fun _ _ _ _ _ => (de_v 3 (pv 3)))
    refine dss_one ?_
    refine ds_ret ?_
    exact (de_ifExp (dt_cmp (o_ne (u64 hr)) (de_v 2 (pv 2)) (de_lst da_nil) (nomark _)) (de_ix (u1 hr) (de_v 2 (pv 2)) de_int) de_non)
theorem ok_Codes_who {f : Addr} {fd : FuncData} (F : Fun K "who" "Codes.who" st_Codes_who f fd) (hb : Binds K fd ["self", "code"] []) (hm : Meth K (cl "Codes") "who" f) (B : Bt mg) (C : Ct K mg cl) : DfM P w K mg base cl 1 "Codes" "who" ["self", "code"] m_Codes_who :=
  ⟨f, fd, fn_Codes_who F B C, hm, hb⟩
abbrev st_Codes_give : Stmt := inClass (topS 16) 1
abbrev nm_Codes_give : List Str := ["self", "name", "code", "rights", "more"]
def ss_Codes_give : Scope := scp [(("self" : Str), NameKind.local), (("name" : Str), NameKind.local), (("code" : Str), NameKind.local), (("rights" : Str), NameKind.local), (("more" : Str), NameKind.local), (("is_name" : Str), NameKind.globalImplicit), (("NoName" : Str), NameKind.globalImplicit), (("is_code" : Str), NameKind.globalImplicit), (("NoCode" : Str), NameKind.globalImplicit), (("are_rights" : Str), NameKind.globalImplicit), (("NoRight" : Str), NameKind.globalImplicit), (("Taken" : Str), NameKind.globalImplicit), (("dict" : Str), NameKind.globalImplicit), (("len" : Str), NameKind.globalImplicit)] []
theorem sc_Codes_give : FnScope nm_Codes_give ["self", "name", "code", "rights"] ss_Codes_give := ⟨rfl, rfl, rfl, by decide +kernel, rfl, by decide +kernel, by decide +kernel⟩
theorem fn_Codes_give {f : Addr} {fd : FuncData} (F : Fun K "give" "Codes.give" st_Codes_give f fd) (B : Bt mg) (C : Ct K mg cl) (d_is_name : Df P w K mg base cl 1 "is_name" ["thing"] m_is_name) (d_is_code : Df P w K mg base cl 1 "is_code" ["thing"] m_is_code) (d_are_rights : Df P w K mg base cl 1 "are_rights" ["thing"] m_are_rights) (d_Codes_who : DfM P w K mg base cl 1 "Codes" "who" ["self", "code"] m_Codes_who) : FnOk P w K mg base (L2.CX P w) 2 f fd ["self", "name", "code", "rights"] (spM K cl 4 m_Codes_give) :=
  Fun.fn (k := 1) (g := g_Codes_give) F (by rfl) (sc := ss_Codes_give) (by rfl) (by rfl) sc_Codes_give fun cdv A outer s H E e hr => by
    refine dss_cons ?_ ?_
    · refine ds_if ?_ ?_ ?_
      · exact (dt_not (dt_val (de_call d_is_name hr (by decide) (by exact rfl) (by exact takes_of rfl rfl rfl rfl) (da_cons (de_v 1 (pv 1)) da_nil))))
      · refine dss_one ?_
        exact ds_raise C.x_NoName (by exact rfl) (by exact takes_of rfl rfl rfl rfl) (by exact rfl)
      · exact dss_nil
    refine dss_cons ?_ ?_
    · refine ds_if ?_ ?_ ?_
      · exact (dt_not (dt_val (de_call d_is_code hr (by decide) (by exact rfl) (by exact takes_of rfl rfl rfl rfl) (da_cons (de_v 2 (pv 2)) da_nil))))
      · refine dss_one ?_
        exact ds_raise C.x_NoCode (by exact rfl) (by exact takes_of rfl rfl rfl rfl) (by exact rfl)
      · exact dss_nil
    refine dss_cons ?_ ?_
    · refine ds_if ?_ ?_ ?_
      · exact (dt_not (dt_val (de_call d_are_rights hr (by decide) (by exact rfl) (by exact takes_of rfl rfl rfl rfl) (da_cons (de_v 3 (pv 3)) da_nil))))
      · refine dss_one ?_
        exact ds_raise C.x_NoRight (by exact rfl) (by exact takes_of rfl rfl rfl rfl) (by exact rfl)
      · exact dss_nil
    refine dss_cons ?_ ?_
    · refine ds_if ?_ ?_ ?_
      · exact (DW.pt (dw_or (dt_cmp (o_inX (u65 hr)) (de_v 1 (pv 1)) (de_fld C.k_Codes (by decide) (de_v 0 (pv 0))) (by exact rfl)) (dw_or1 (dt_cmp o_isnot (de_meth d_Codes_who C.k_Codes hr (by decide) (by exact takes_of rfl rfl rfl rfl) (de_v 0 (pv 0)) (da_cons (de_v 2 (pv 2)) da_nil)) de_non (nomark _)))))
      · refine dss_one ?_
        exact ds_raise C.x_Taken (by exact rfl) (by exact takes_of rfl rfl rfl rfl) (by exact rfl)
      · exact dss_nil
    refine dss_cons ?_ ?_
    · refine ds_setOwnD (i := 4) sc_Codes_give.nd (by exact rfl) (by exact (Or.inl rfl)) ?_
      exact (dd_dict (da_cons (de_fld C.k_Codes (by decide) (de_v 0 (pv 0))) da_nil) (by exact rfl) B.dict)
    refine dss_cons ?_ ?_
    · exact ds_putOwnD (u1 hr) (pv 4) (de_v 1 (pv 1)) (de_tup (da_cons (de_v 2 (pv 2)) (da_cons (de_v 3 (pv 3)) da_nil)))
    refine dss_freeze 4 ?_
    refine dss_cons ?_ ?_
    · exact ds_fld C.k_Codes (by decide) (de_v 0 (pv 0)) (de_v 4 (pv 4))
    refine dss_one ?_
    refine ds_ret ?_
    exact (de_callB c_len (by exact rfl) B.len bb_len (da_cons (de_v 4 (pv 4)) da_nil))
theorem ok_Codes_give {f : Addr} {fd : FuncData} (F : Fun K "give" "Codes.give" st_Codes_give f fd) (hb : Binds K fd ["self", "name", "code", "rights"] []) (hm : Meth K (cl "Codes") "give" f) (B : Bt mg) (C : Ct K mg cl) (d_is_name : Df P w K mg base cl 1 "is_name" ["thing"] m_is_name) (d_is_code : Df P w K mg base cl 1 "is_code" ["thing"] m_is_code) (d_are_rights : Df P w K mg base cl 1 "are_rights" ["thing"] m_are_rights) (d_Codes_who : DfM P w K mg base cl 1 "Codes" "who" ["self", "code"] m_Codes_who) : DfM P w K mg base cl 2 "Codes" "give" ["self", "name", "code", "rights"] m_Codes_give :=
  ⟨f, fd, fn_Codes_give F B C d_is_name d_is_code d_are_rights d_Codes_who, hm, hb⟩
abbrev st_Codes_take : Stmt := inClass (topS 16) 2
abbrev nm_Codes_take : List Str := ["self", "name", "found", "one"]
def ss_Codes_take : Scope := scp [(("self" : Str), NameKind.cell), (("name" : Str), NameKind.cell), (("found" : Str), NameKind.local), (("NoName" : Str), NameKind.globalImplicit), (("dict" : Str), NameKind.globalImplicit)] [(("fast" : Str), Const.str "self"), (("fast" : Str), Const.str "name"), (("fast" : Str), Const.str "found"), (("fast" : Str), Const.str "one")]
theorem sc_Codes_take : FnScope nm_Codes_take ["self", "name"] ss_Codes_take := ⟨rfl, rfl, rfl, by decide +kernel, rfl, by decide +kernel, by decide +kernel⟩
theorem fn_Codes_take {f : Addr} {fd : FuncData} (F : Fun K "take" "Codes.take" st_Codes_take f fd) (B : Bt mg) (C : Ct K mg cl) : FnOk P w K mg base (L2.CX P w) 1 f fd ["self", "name"] (spM K cl 2 m_Codes_take) :=
  Fun.fn (k := 0) (g := g_Codes_take) F (by rfl) (sc := ss_Codes_take) (by rfl) (by rfl) sc_Codes_take fun cdv A outer s H E e hr => by
    refine dss_cons ?_ ?_
    · refine ds_if ?_ ?_ ?_
      · exact (dt_cmp (o_notinX (u65 hr)) (de_v 1 (pv 1)) (de_fld C.k_Codes (by decide) (de_v 0 (pv 0))) (by exact rfl))
      · refine dss_one ?_
        exact ds_raise C.x_NoName (by exact rfl) (by exact takes_of rfl rfl rfl rfl) (by exact rfl)
      · exact dss_nil
    refine dss_cons ?_ ?_
    · refine ds_set (i := 2) sc_Codes_take.nd (by exact rfl) (by exact (Or.inl rfl)) ?_
      exact (de_ix (u1 hr) (de_fld C.k_Codes (by decide) (de_v 0 (pv 0))) (de_v 1 (pv 1)))
    refine dss_cons ?_ ?_
    · exact ds_fld C.k_Codes (by decide) (de_v 0 (pv 0)) (de_dictP (by exact rfl) (da_cons (DL.de (dl_comp (by exact rfl) sc_Codes_take.nd (di_seq (de_fld C.k_Codes (by decide) (de_v 0 (pv 0)))) (by exact blkOk_by (N := nm_Codes_take) (sc := ss_Codes_take) (own := [("one", 3)]) (by decide +kernel)) (fun _ _ _ _ _ => (eg_name (i := 3) (by decide) sc_Codes_take.nd (by exact rfl) (by first | exact Or.inl rfl | exact Or.inr rfl))) (fun _ _ _ _ _ => (dts_one (dt_cmp (o_ne (u64 hr)) (de_v 3 (pv 3)) (de_v 1 (pv 1)) (nomark _)))) (fun _ _ _ _ _ => (de_tup (da_cons (de_v 3 (pv 3)) (da_cons (de_ix (u1 hr) (de_fld C.k_Codes (by decide) (de_v 0 (pv 0))) (de_v 3 (pv 3))) da_nil)))))) da_nil) (by exact rfl) B.dict)
    refine dss_one ?_
    refine ds_ret ?_
    exact (de_v 2 (pv 2))
theorem ok_Codes_take {f : Addr} {fd : FuncData} (F : Fun K "take" "Codes.take" st_Codes_take f fd) (hb : Binds K fd ["self", "name"] []) (hm : Meth K (cl "Codes") "take" f) (B : Bt mg) (C : Ct K mg cl) : DfM P w K mg base cl 1 "Codes" "take" ["self", "name"] m_Codes_take :=
  ⟨f, fd, fn_Codes_take F B C, hm, hb⟩
abbrev st_Codes_locked_at : Stmt := inClass (topS 16) 5
abbrev nm_Codes_locked_at : List Str := ["self", "moment"]
def ss_Codes_locked_at : Scope := scp [(("self" : Str), NameKind.local), (("moment" : Str), NameKind.local)] []
theorem sc_Codes_locked_at : FnScope nm_Codes_locked_at ["self", "moment"] ss_Codes_locked_at := ⟨rfl, rfl, rfl, by decide +kernel, rfl, by decide +kernel, by decide +kernel⟩
theorem fn_Codes_locked_at {f : Addr} {fd : FuncData} (F : Fun K "locked_at" "Codes.locked_at" st_Codes_locked_at f fd) (B : Bt mg) (C : Ct K mg cl) : FnOk P w K mg base (L2.CX P w) 1 f fd ["self", "moment"] (spM K cl 2 m_Codes_locked_at) :=
  Fun.fn (k := 0) (g := g_Codes_locked_at) F (by rfl) (sc := ss_Codes_locked_at) (by rfl) (by rfl) sc_Codes_locked_at fun cdv A outer s H E e hr => by
    refine dss_one ?_
    refine ds_ret ?_
    exact (de_chain o_le (o_lt (u64 hr)) (de_fld C.k_Codes (by decide) (de_v 0 (pv 0))) (de_v 1 (pv 1)) (de_fld C.k_Codes (by decide) (de_v 0 (pv 0))))
theorem ok_Codes_locked_at {f : Addr} {fd : FuncData} (F : Fun K "locked_at" "Codes.locked_at" st_Codes_locked_at f fd) (hb : Binds K fd ["self", "moment"] []) (hm : Meth K (cl "Codes") "locked_at" f) (B : Bt mg) (C : Ct K mg cl) : DfM P w K mg base cl 1 "Codes" "locked_at" ["self", "moment"] m_Codes_locked_at :=
  ⟨f, fd, fn_Codes_locked_at F B C, hm, hb⟩
abbrev st_Codes_ask : Stmt := inClass (topS 16) 6
abbrev nm_Codes_ask : List Str := ["self", "code", "moment", "right", "name"]
def ss_Codes_ask : Scope := scp [(("self" : Str), NameKind.local), (("code" : Str), NameKind.local), (("moment" : Str), NameKind.local), (("right" : Str), NameKind.local), (("name" : Str), NameKind.local), (("NoTime" : Str), NameKind.globalImplicit), (("Locked" : Str), NameKind.globalImplicit), (("Wrong" : Str), NameKind.globalImplicit), (("NoRight" : Str), NameKind.globalImplicit)] []
theorem sc_Codes_ask : FnScope nm_Codes_ask ["self", "code", "moment", "right"] ss_Codes_ask := ⟨rfl, rfl, rfl, by decide +kernel, rfl, by decide +kernel, by decide +kernel⟩
theorem fn_Codes_ask {f : Addr} {fd : FuncData} (F : Fun K "ask" "Codes.ask" st_Codes_ask f fd) (B : Bt mg) (C : Ct K mg cl) (d_Codes_locked_at : DfM P w K mg base cl 1 "Codes" "locked_at" ["self", "moment"] m_Codes_locked_at) (d_Codes_who : DfM P w K mg base cl 1 "Codes" "who" ["self", "code"] m_Codes_who) : FnOk P w K mg base (L2.CX P w) 2 f fd ["self", "code", "moment", "right"] (spM K cl 4 m_Codes_ask) :=
  Fun.fn (k := 1) (g := g_Codes_ask) F (by rfl) (sc := ss_Codes_ask) (by rfl) (by rfl) sc_Codes_ask fun cdv A outer s H E e hr => by
    refine dss_cons ?_ ?_
    · refine ds_if ?_ ?_ ?_
      · exact (dt_cmp (o_lt (u64 hr)) (de_v 2 (pv 2)) (de_fld C.k_Codes (by decide) (de_v 0 (pv 0))) (nomark _))
      · refine dss_one ?_
        exact ds_raise C.x_NoTime (by exact rfl) (by exact takes_of rfl rfl rfl rfl) (by exact rfl)
      · exact dss_nil
    refine dss_cons ?_ ?_
    · refine ds_if ?_ ?_ ?_
      · exact (dt_val (de_meth d_Codes_locked_at C.k_Codes hr (by decide) (by exact takes_of rfl rfl rfl rfl) (de_v 0 (pv 0)) (da_cons (de_v 2 (pv 2)) da_nil)))
      · refine dss_one ?_
        exact ds_raise C.x_Locked (by exact rfl) (by exact takes_of rfl rfl rfl rfl) (by exact rfl)
      · exact dss_nil
    refine dss_cons ?_ ?_
    · exact ds_fld C.k_Codes (by decide) (de_v 0 (pv 0)) (de_v 2 (pv 2))
    refine dss_cons ?_ ?_
    · refine ds_set (i := 4) sc_Codes_ask.nd (by exact rfl) (by exact (Or.inl rfl)) ?_
      exact (de_meth d_Codes_who C.k_Codes hr (by decide) (by exact takes_of rfl rfl rfl rfl) (de_v 0 (pv 0)) (da_cons (de_v 1 (pv 1)) da_nil))
    refine dss_cons ?_ ?_
    · refine ds_if ?_ ?_ ?_
      · exact (dt_cmp o_is (de_v 4 (pv 4)) de_non (nomark _))
      · refine dss_cons ?_ ?_
        · exact ds_fld C.k_Codes (by decide) (de_v 0 (pv 0)) (de_bin o_add (de_fld C.k_Codes (by decide) (de_v 0 (pv 0))) de_int)
        refine dss_cons ?_ ?_
        · refine ds_if ?_ ?_ ?_
          · exact (dt_cmp o_ge (de_fld C.k_Codes (by decide) (de_v 0 (pv 0))) (de_fld C.k_Codes (by decide) (de_v 0 (pv 0))) (nomark _))
          · refine dss_cons ?_ ?_
            · exact ds_fld C.k_Codes (by decide) (de_v 0 (pv 0)) de_int
            refine dss_cons ?_ ?_
            · exact ds_fld C.k_Codes (by decide) (de_v 0 (pv 0)) (de_v 2 (pv 2))
            refine dss_one ?_
            exact ds_fld C.k_Codes (by decide) (de_v 0 (pv 0)) (de_bin o_add (de_v 2 (pv 2)) (de_fld C.k_Codes (by decide) (de_v 0 (pv 0))))
          · exact dss_nil
        refine dss_one ?_
        exact ds_raise C.x_Wrong (by exact rfl) (by exact takes_of rfl rfl rfl rfl) (by exact rfl)
      · exact dss_nil
    refine dss_cons ?_ ?_
    · exact ds_fld C.k_Codes (by decide) (de_v 0 (pv 0)) de_int
    refine dss_cons ?_ ?_
    · refine ds_if ?_ ?_ ?_
      · exact (dt_cmp (o_notinX (u65 hr)) (de_v 3 (pv 3)) (de_ix (u1 hr) (de_ix (u1 hr) (de_fld C.k_Codes (by decide) (de_v 0 (pv 0))) (de_v 4 (pv 4))) de_int) (by exact rfl))
      · refine dss_one ?_
        exact ds_raise C.x_NoRight (by exact rfl) (by exact takes_of rfl rfl rfl rfl) (by exact rfl)
      · exact dss_nil
    refine dss_one ?_
    refine ds_ret ?_
    exact (de_v 4 (pv 4))
theorem ok_Codes_ask {f : Addr} {fd : FuncData} (F : Fun K "ask" "Codes.ask" st_Codes_ask f fd) (hb : Binds K fd ["self", "code", "moment", "right"] []) (hm : Meth K (cl "Codes") "ask" f) (B : Bt mg) (C : Ct K mg cl) (d_Codes_locked_at : DfM P w K mg base cl 1 "Codes" "locked_at" ["self", "moment"] m_Codes_locked_at) (d_Codes_who : DfM P w K mg base cl 1 "Codes" "who" ["self", "code"] m_Codes_who) : DfM P w K mg base cl 2 "Codes" "ask" ["self", "code", "moment", "right"] m_Codes_ask :=
  ⟨f, fd, fn_Codes_ask F B C d_Codes_locked_at d_Codes_who, hm, hb⟩
abbrev st_law_word : Stmt := topS 20
abbrev nm_law_word : List Str := ["e", "flags"]
def ss_law_word : Scope := scp [(("e" : Str), NameKind.local), (("flags" : Str), NameKind.local), (("isinstance" : Str), NameKind.globalImplicit), (("NoName" : Str), NameKind.globalImplicit), (("NoCode" : Str), NameKind.globalImplicit), (("NoRight" : Str), NameKind.globalImplicit), (("Taken" : Str), NameKind.globalImplicit), (("NoTime" : Str), NameKind.globalImplicit), (("Locked" : Str), NameKind.globalImplicit), (("Wrong" : Str), NameKind.globalImplicit), (("ValueError" : Str), NameKind.globalImplicit)] []
theorem sc_law_word : FnScope nm_law_word ["e"] ss_law_word := ⟨rfl, rfl, rfl, by decide +kernel, rfl, by decide +kernel, by decide +kernel⟩
theorem fn_law_word {f : Addr} {fd : FuncData} (F : Fun K "_law_word" "_law_word" st_law_word f fd) (B : Bt mg) (C : Ct K mg cl) {c : Str} (hc : c ∈ XS) {a : Addr} {oe : Obj} (hz : Zc (.ref (cl c)) none oe) (hf : ∃ vs, oe.data = .fields vs) : FnE P w K mg base 1 f fd ["e"] (a, oe) (spE K cl a (mOfE 2 a (g_law_word a c))) :=
  Fun.fnE (k := 0) (p := (a, oe)) (g := g_law_word a c) F (by rfl) (sc := ss_law_word) (by rfl) (by rfl) sc_law_word fun cdv A outer s H E e hr => by
    have hp : (a, oe) ∈ [(a, oe)] := List.mem_cons_self
    refine dss_cons ?_ ?_
    · refine ds_set (i := 1) sc_law_word.nd (by exact rfl) (by exact (Or.inl rfl)) ?_
      exact (de_lst (da_cons (de_isE (C.ec c hc) hp hz hf (pv 0) (pe_glob (v := .ref (cl "NoName")) (by exact rfl) C.x_NoName.g rfl) (fun _ h => h) (C.isa c hc "NoName" (by decide)) (by exact rfl) B.isinstance) (da_cons (de_isE (C.ec c hc) hp hz hf (pv 0) (pe_glob (v := .ref (cl "NoCode")) (by exact rfl) C.x_NoCode.g rfl) (fun _ h => h) (C.isa c hc "NoCode" (by decide)) (by exact rfl) B.isinstance) (da_cons (de_isE (C.ec c hc) hp hz hf (pv 0) (pe_glob (v := .ref (cl "NoRight")) (by exact rfl) C.x_NoRight.g rfl) (fun _ h => h) (C.isa c hc "NoRight" (by decide)) (by exact rfl) B.isinstance) (da_cons (de_isE (C.ec c hc) hp hz hf (pv 0) (pe_glob (v := .ref (cl "Taken")) (by exact rfl) C.x_Taken.g rfl) (fun _ h => h) (C.isa c hc "Taken" (by decide)) (by exact rfl) B.isinstance) da_nil)))))
    refine dss_cons ?_ ?_
    · refine ds_set (i := 1) sc_law_word.nd (by exact rfl) (by exact (Or.inl rfl)) ?_
      exact (de_bin o_add (de_v 1 (pv 1)) (de_lst (da_cons (de_isE (C.ec c hc) hp hz hf (pv 0) (pe_glob (v := .ref (cl "NoTime")) (by exact rfl) C.x_NoTime.g rfl) (fun _ h => h) (C.isa c hc "NoTime" (by decide)) (by exact rfl) B.isinstance) (da_cons (de_isE (C.ec c hc) hp hz hf (pv 0) (pe_glob (v := .ref (cl "Locked")) (by exact rfl) C.x_Locked.g rfl) (fun _ h => h) (C.isa c hc "Locked" (by decide)) (by exact rfl) B.isinstance) (da_cons (de_isE (C.ec c hc) hp hz hf (pv 0) (pe_glob (v := .ref (cl "Wrong")) (by exact rfl) C.x_Wrong.g rfl) (fun _ h => h) (C.isa c hc "Wrong" (by decide)) (by exact rfl) B.isinstance) da_nil)))))
    refine dss_cons ?_ ?_
    · refine ds_if ?_ ?_ ?_
      · exact (DW.pt (dw_or (dt_cmp (o_ne (h64 hr)) (de_count (de_v 1 (pv 1)) (da_cons de_bl da_nil)) de_int (nomark _)) (dw_or1 (dt_not (dt_val (de_isE (C.ec c hc) hp hz hf (pv 0) (pe_bltn (v := .ty "ValueError") (by exact rfl) C.noVE (by decide +kernel) rfl) (fun _ h => h) (C.isv c hc) (by exact rfl) B.isinstance))))))
      · refine dss_one ?_
        refine ds_ret ?_
        exact (de_tup (da_cons de_str (da_cons (de_neg de_int) da_nil)))
      · exact dss_nil
    refine dss_one ?_
    refine ds_ret ?_
    exact (de_tup (da_cons de_str (da_cons (de_index (de_v 1 (pv 1)) (da_cons de_bl da_nil)) da_nil)))
theorem ok_law_word {f : Addr} {fd : FuncData} (F : Fun K "_law_word" "_law_word" st_law_word f fd) (hb : Binds K fd ["e"] []) (hm : mg "_law_word" = some (.ref f)) (B : Bt mg) (C : Ct K mg cl) (ev : ∀ a c S, c ∈ XS → mOfE 2 a (g_law_word a c) S = m_law_word c S) : DfE P w K mg base cl 1 "_law_word" "e" XS m_law_word :=
  ⟨f, fd, fun c hc p hz hf => by
    have := fn_law_word (P := P) (w := w) (base := base) F B C hc (a := p.1) (oe := p.2) hz hf
    rw [show mOfE 2 p.1 (g_law_word p.1 c) = m_law_word c from funext fun S => ev p.1 c S hc] at this
    exact this, hm, F.kp, hb⟩
abbrev st_law_told : Stmt := topS 23
abbrev nm_law_told : List Str := ["codes", "step", "e"]
def ss_law_told : Scope := scp [(("codes" : Str), NameKind.local), (("step" : Str), NameKind.local), (("e" : Str), NameKind.local), (("BoltError" : Str), NameKind.globalImplicit), (("_law_word" : Str), NameKind.globalImplicit)] []
theorem sc_law_told : FnScope nm_law_told ["codes", "step"] ss_law_told := ⟨rfl, rfl, rfl, by decide +kernel, rfl, by decide +kernel, by decide +kernel⟩
theorem fn_law_told {f : Addr} {fd : FuncData} (F : Fun K "_law_told" "_law_told" st_law_told f fd) (B : Bt mg) (C : Ct K mg cl) (d_Codes_give : DfM P w K mg base cl 2 "Codes" "give" ["self", "name", "code", "rights"] m_Codes_give) (d_Codes_take : DfM P w K mg base cl 1 "Codes" "take" ["self", "name"] m_Codes_take) (d_Codes_ask : DfM P w K mg base cl 2 "Codes" "ask" ["self", "code", "moment", "right"] m_Codes_ask) (d_law_word : DfE P w K mg base cl 1 "_law_word" "e" XS m_law_word) : FnOk P w K mg base (L2.CX P w) 3 f fd ["codes", "step"] (spM K cl 2 m_law_told) :=
  Fun.fn (k := 2) (g := g_law_told) F (by rfl) (sc := ss_law_told) (by rfl) (by rfl) sc_law_told fun cdv A outer s H E e hr => by
    refine dss_one ?_
    refine ds_try (i := 2) (cs := XS) (fe := fun a c => fAt 2 a (m_law_word c)) (FE := fun c _ S => m_law_word c S) ?_ ?_ ?_ (fun c hc => C.exm c hc) (by exact rfl) (by exact rfl) sc_law_told.nd (by exact rfl) (by exact rfl) ⟨(by exact rfl), by decide, .inl C.x_BoltError.g⟩
    · intro W pn xe tk po
      refine dss_cons ?_ ?_
      · refine ds_if ?_ ?_ ?_
        · exact (dt_cmp (o_eq (u64 hr)) (de_ix (u1 hr) (de_v 1 (pv 1)) de_int) de_str (nomark _))
        · refine dss_one ?_
          refine ds_ret ?_
          exact (de_meth d_Codes_give C.k_Codes hr (by decide) tk (de_v 0 (pv 0)) (da_cons (de_ix (u1 hr) (de_v 1 (pv 1)) de_int) (da_cons (de_ix (u1 hr) (de_v 1 (pv 1)) de_int) (da_cons (de_ix (u1 hr) (de_v 1 (pv 1)) de_int) da_nil))))
        · exact dss_nil
      refine dss_cons ?_ ?_
      · refine ds_if ?_ ?_ ?_
        · exact (dt_cmp (o_eq (u64 hr)) (de_ix (u1 hr) (de_v 1 (pv 1)) de_int) de_str (nomark _))
        · refine dss_one ?_
          refine ds_ret ?_
          exact (de_meth d_Codes_take C.k_Codes hr (by decide) tk (de_v 0 (pv 0)) (da_cons (de_ix (u1 hr) (de_v 1 (pv 1)) de_int) da_nil))
        · exact dss_nil
      refine dss_one ?_
      refine ds_ret ?_
      exact (de_meth d_Codes_ask C.k_Codes hr (by decide) tk (de_v 0 (pv 0)) (da_cons (de_ix (u1 hr) (de_v 1 (pv 1)) de_int) (da_cons (de_ix (u1 hr) (de_v 1 (pv 1)) de_int) (da_cons (de_ix (u1 hr) (de_v 1 (pv 1)) de_int) da_nil))))
    · intro a oe c pn hc hz hf
      exact de_callE d_law_word hc hz hf List.mem_cons_self (hot_of hr _) (by decide) (by exact rfl) takes0 (pv 2)
    · intro a c ρ S hi _
      exact fAt_set hi
theorem ok_law_told {f : Addr} {fd : FuncData} (F : Fun K "_law_told" "_law_told" st_law_told f fd) (hb : Binds K fd ["codes", "step"] []) (hm : mg "_law_told" = some (.ref f)) (B : Bt mg) (C : Ct K mg cl) (d_Codes_give : DfM P w K mg base cl 2 "Codes" "give" ["self", "name", "code", "rights"] m_Codes_give) (d_Codes_take : DfM P w K mg base cl 1 "Codes" "take" ["self", "name"] m_Codes_take) (d_Codes_ask : DfM P w K mg base cl 2 "Codes" "ask" ["self", "code", "moment", "right"] m_Codes_ask) (d_law_word : DfE P w K mg base cl 1 "_law_word" "e" XS m_law_word) : Df P w K mg base cl 3 "_law_told" ["codes", "step"] m_law_told :=
  ⟨f, fd, fn_law_told F B C d_Codes_give d_Codes_take d_Codes_ask d_law_word, hm, F.kp, hb⟩
abbrev st_law_asks : Stmt := topS 21
abbrev nm_law_asks : List Str := ["own", "code", "moment", "right", "some", "name"]
def ss_law_asks : Scope := scp [(("own" : Str), NameKind.cell), (("code" : Str), NameKind.cell), (("moment" : Str), NameKind.local), (("right" : Str), NameKind.local), (("some" : Str), NameKind.local)] [(("fast" : Str), Const.str "own"), (("fast" : Str), Const.str "code"), (("fast" : Str), Const.str "moment"), (("fast" : Str), Const.str "right"), (("fast" : Str), Const.str "name"), (("fast" : Str), Const.str "some")]
theorem sc_law_asks : FnScope nm_law_asks ["own", "code", "moment", "right"] ss_law_asks := ⟨rfl, rfl, rfl, by decide +kernel, rfl, by decide +kernel, by decide +kernel⟩
theorem fn_law_asks {f : Addr} {fd : FuncData} (F : Fun K "_law_asks" "_law_asks" st_law_asks f fd) (B : Bt mg) (C : Ct K mg cl) : FnOk P w K mg base (L2.CX P w) 1 f fd ["own", "code", "moment", "right"] (spM K cl 4 m_law_asks) :=
  Fun.fn (k := 0) (g := g_law_asks) F (by rfl) (sc := ss_law_asks) (by rfl) (by rfl) sc_law_asks fun cdv A outer s H E e hr => by
    refine dss_cons ?_ ?_
    · refine ds_if ?_ ?_ ?_
      · exact (dt_cmp (o_lt (u64 hr)) (de_v 2 (pv 2)) (de_ix (u1 hr) (de_v 0 (pv 0)) de_str) (nomark _))
      · refine dss_one ?_
        refine ds_ret ?_
        exact (de_tup (da_cons de_str (da_cons de_int da_nil)))
      · exact dss_nil
    refine dss_cons ?_ ?_
    · refine ds_if ?_ ?_ ?_
      · exact (dt_chain o_le (o_lt (u64 hr)) (de_ix (u1 hr) (de_v 0 (pv 0)) de_str) (de_v 2 (pv 2)) (de_ix (u1 hr) (de_v 0 (pv 0)) de_str))
      · refine dss_one ?_
        refine ds_ret ?_
        exact (de_tup (da_cons de_str (da_cons de_int da_nil)))
      · exact dss_nil
    refine dss_cons ?_ ?_
    · exact ds_putC (u1 hr) (de_v 0 (pv 0)) de_str (de_v 2 (pv 2))
    refine dss_cons ?_ ?_
    · exact ds_setLcK (refAt (f2 gIx (fV 0) (fC (.str "rows")))) (i := 4) (by exact rfl) sc_law_asks.nd (by exact rfl) (by exact rfl) (by exact sw_true rfl rfl rfl (by decide +kernel)) (di_keysC (de_ix (u1 hr) (de_v 0 (pv 0)) de_str)) (by exact blkOk_by (N := nm_law_asks) (sc := ss_law_asks) (own := [("name", 5)]) (by decide +kernel)) (fun _ _ _ _ _ => (eg_name (i := 5) (by decide) sc_law_asks.nd (by exact rfl) (by first | exact Or.inl rfl | exact Or.inr rfl))) (fun _ _ _ _ _ => (dts_one (dt_cmp (o_eq (u64 hr)) (de_ix (u1 hr) (de_ix (u1 hr) (de_ix (u1 hr) (de_v 0 (pv 0)) de_str) (de_v 5 (pv 5))) de_int) (de_v 1 (pv 1)) (nomark _)))) (fun _ _ _ _ _ => (de_v 5 (pv 5)))
    refine dss_cons ?_ ?_
    · refine ds_if ?_ ?_ ?_
      · exact (dt_cmp (o_eq (u64 hr)) (de_v 4 (pv 4)) (de_lst da_nil) (nomark _))
      · refine dss_cons ?_ ?_
        · exact ds_putC (u1 hr) (de_v 0 (pv 0)) de_str (de_bin o_add (de_ix (u1 hr) (de_v 0 (pv 0)) de_str) de_int)
        refine dss_cons ?_ ?_
        · refine ds_if ?_ ?_ ?_
          · exact (dt_cmp (o_eq (u64 hr)) (de_ix (u1 hr) (de_v 0 (pv 0)) de_str) (de_ix (u1 hr) (de_v 0 (pv 0)) de_str) (nomark _))
          · refine dss_one ?_
            exact ds_asgS (by exact rfl) (de_tup (da_cons de_int (da_cons (de_v 2 (pv 2)) (da_cons (de_bin o_add (de_v 2 (pv 2)) (de_ix (u1 hr) (de_v 0 (pv 0)) de_str)) da_nil)))) (dgS_cons (dg_subC (u1 hr) (de_v 0 (pv 0)) de_str) (dgS_cons (dg_subC (u1 hr) (de_v 0 (pv 0)) de_str) (dgS_cons (dg_subC (u1 hr) (de_v 0 (pv 0)) de_str) dgS_nil)))
          · exact dss_nil
        refine dss_one ?_
        refine ds_ret ?_
        exact (de_tup (da_cons de_str (da_cons de_int da_nil)))
      · exact dss_nil
    refine dss_cons ?_ ?_
    · exact ds_putC (u1 hr) (de_v 0 (pv 0)) de_str de_int
    refine dss_one ?_
    refine ds_ret ?_
    exact (de_ifExp (dt_cmp (o_inX (u65 hr)) (de_v 3 (pv 3)) (de_ix (u1 hr) (de_ix (u1 hr) (de_ix (u1 hr) (de_v 0 (pv 0)) de_str) (de_ix (u1 hr) (de_v 4 (pv 4)) de_int)) de_int) (by exact rfl)) (de_ix (u1 hr) (de_v 4 (pv 4)) de_int) (de_tup (da_cons de_str (da_cons de_int da_nil))))
theorem ok_law_asks {f : Addr} {fd : FuncData} (F : Fun K "_law_asks" "_law_asks" st_law_asks f fd) (hb : Binds K fd ["own", "code", "moment", "right"] []) (hm : mg "_law_asks" = some (.ref f)) (B : Bt mg) (C : Ct K mg cl) : Df P w K mg base cl 1 "_law_asks" ["own", "code", "moment", "right"] m_law_asks :=
  ⟨f, fd, fn_law_asks F B C, hm, F.kp, hb⟩
abbrev st_law_answer : Stmt := topS 24
abbrev nm_law_answer : List Str := ["own", "step", "rows", "row"]
def ss_law_answer : Scope := scp [(("own" : Str), NameKind.local), (("step" : Str), NameKind.local), (("rows" : Str), NameKind.local), (("_law_asks" : Str), NameKind.globalImplicit), (("len" : Str), NameKind.globalImplicit)] [(("fast" : Str), Const.str "own"), (("fast" : Str), Const.str "step"), (("fast" : Str), Const.str "rows"), (("fast" : Str), Const.str "row")]
theorem sc_law_answer : FnScope nm_law_answer ["own", "step"] ss_law_answer := ⟨rfl, rfl, rfl, by decide +kernel, rfl, by decide +kernel, by decide +kernel⟩
theorem fn_law_answer {f : Addr} {fd : FuncData} (F : Fun K "_law_answer" "_law_answer" st_law_answer f fd) (B : Bt mg) (C : Ct K mg cl) (d_law_asks : Df P w K mg base cl 1 "_law_asks" ["own", "code", "moment", "right"] m_law_asks) : FnOk P w K mg base (L2.CX P w) 2 f fd ["own", "step"] (spM K cl 2 m_law_answer) :=
  Fun.fn (k := 1) (g := g_law_answer) F (by rfl) (sc := ss_law_answer) (by rfl) (by rfl) sc_law_answer fun cdv A outer s H E e hr => by
    refine dss_cons ?_ ?_
    · refine ds_if ?_ ?_ ?_
      · exact (dt_cmp (o_eq (u64 hr)) (de_ix (u1 hr) (de_v 1 (pv 1)) de_int) de_str (nomark _))
      · refine dss_one ?_
        refine ds_ret ?_
        exact (de_call d_law_asks hr (by decide) (by exact rfl) (by exact takes_of rfl rfl rfl rfl) (da_cons (de_v 0 (pv 0)) (da_cons (de_ix (u1 hr) (de_v 1 (pv 1)) de_int) (da_cons (de_ix (u1 hr) (de_v 1 (pv 1)) de_int) (da_cons (de_ix (u1 hr) (de_v 1 (pv 1)) de_int) da_nil)))))
      · exact dss_nil
    refine dss_cons ?_ ?_
    · refine ds_set (i := 2) sc_law_answer.nd (by exact rfl) (by exact (Or.inl rfl)) ?_
      exact (de_ix (u1 hr) (de_v 0 (pv 0)) de_str)
    refine dss_cons ?_ ?_
    · refine ds_if ?_ ?_ ?_
      · exact (dt_cmp (o_eq (u64 hr)) (de_ix (u1 hr) (de_v 1 (pv 1)) de_int) de_str (nomark _))
      · refine dss_one ?_
        refine ds_ret ?_
        exact (de_popC (de_v 2 (pv 2)) (de_ix (u1 hr) (de_v 1 (pv 1)) de_int) (de_tup (da_cons de_str (da_cons de_int da_nil))))
      · exact dss_nil
    refine dss_cons ?_ ?_
    · refine ds_if ?_ ?_ ?_
      · exact (dt_cmp (o_notinX (u65 hr)) (de_ix (u1 hr) (de_v 1 (pv 1)) de_int) (de_tup (da_cons de_str (da_cons de_str (da_cons de_str (da_cons de_str da_nil))))) (by exact rfl))
      · refine dss_one ?_
        refine ds_ret ?_
        exact (de_tup (da_cons de_str (da_cons de_int da_nil)))
      · exact dss_nil
    refine dss_cons ?_ ?_
    · refine ds_if ?_ ?_ ?_
      · exact (dt_cmp (o_notinX (u65 hr)) (de_ix (u1 hr) (de_v 1 (pv 1)) de_int) (de_tup (da_cons de_str (da_cons de_str (da_cons de_str (da_cons de_str da_nil))))) (by exact rfl))
      · refine dss_one ?_
        refine ds_ret ?_
        exact (de_tup (da_cons de_str (da_cons de_int da_nil)))
      · exact dss_nil
    refine dss_cons ?_ ?_
    · refine ds_if ?_ ?_ ?_
      · exact (dt_cmp (o_notinX (u65 hr)) (de_ix (u1 hr) (de_v 1 (pv 1)) de_int) (de_tup (da_cons (de_tup da_nil) (da_cons (de_tup (da_cons de_str da_nil)) (da_cons (de_tup (da_cons de_str da_nil)) (da_cons (de_tup (da_cons de_str (da_cons de_str da_nil))) da_nil))))) (by exact rfl))
      · refine dss_one ?_
        refine ds_ret ?_
        exact (de_tup (da_cons de_str (da_cons de_int da_nil)))
      · exact dss_nil
    refine dss_cons ?_ ?_
    · refine ds_if ?_ ?_ ?_
      · exact (DW.pt (dw_or (dt_cmp (o_inX (u65 hr)) (de_ix (u1 hr) (de_v 1 (pv 1)) de_int) (de_v 2 (pv 2)) (by exact rfl)) (dw_or1 (dt_cmp (o_inX (u65 hr)) (de_ix (u1 hr) (de_v 1 (pv 1)) de_int) (de_lk (refAt (fV 2)) (DL.de (dl_compX (by exact rfl) sc_law_answer.nd (di_valsC (de_v 2 (pv 2))) (by exact blkOk_by (N := nm_law_answer) (sc := ss_law_answer) (own := [("row", 3)]) (by decide +kernel)) (fun _ _ _ _ _ => (eg_name (i := 3) (by decide) sc_law_answer.nd (by exact rfl) (by first | exact Or.inl rfl | exact Or.inr rfl))) (fun _ _ _ _ _ => dts_nil) (fun _ _ _ _ _ => (de_ix (u1 hr) (de_v 3 (pv 3)) de_int))))) (by exact rfl)))))
      · refine dss_one ?_
        refine ds_ret ?_
        exact (de_tup (da_cons de_str (da_cons de_int da_nil)))
      · exact dss_nil
    refine dss_cons ?_ ?_
    · exact ds_putC (u1 hr) (de_v 2 (pv 2)) (de_ix (u1 hr) (de_v 1 (pv 1)) de_int) (de_cut (de_v 1 (pv 1)) (do_some de_int) do_none)
    refine dss_one ?_
    refine ds_ret ?_
    exact (de_callB c_len (by exact rfl) B.len bb_len (da_cons (de_v 2 (pv 2)) da_nil))
theorem ok_law_answer {f : Addr} {fd : FuncData} (F : Fun K "_law_answer" "_law_answer" st_law_answer f fd) (hb : Binds K fd ["own", "step"] []) (hm : mg "_law_answer" = some (.ref f)) (B : Bt mg) (C : Ct K mg cl) (d_law_asks : Df P w K mg base cl 1 "_law_asks" ["own", "code", "moment", "right"] m_law_asks) : Df P w K mg base cl 2 "_law_answer" ["own", "step"] m_law_answer :=
  ⟨f, fd, fn_law_answer F B C d_law_asks, hm, F.kp, hb⟩
abbrev st_Codes_names : Stmt := inClass (topS 16) 4
abbrev nm_Codes_names : List Str := ["self"]
def ss_Codes_names : Scope := scp [(("self" : Str), NameKind.local), (("sorted" : Str), NameKind.globalImplicit)] []
theorem sc_Codes_names : FnScope nm_Codes_names ["self"] ss_Codes_names := ⟨rfl, rfl, rfl, by decide +kernel, rfl, by decide +kernel, by decide +kernel⟩
theorem fn_Codes_names {f : Addr} {fd : FuncData} (F : Fun K "names" "Codes.names" st_Codes_names f fd) (B : Bt mg) (C : Ct K mg cl) : FnOk P w K mg base (L2.CX P w) 1 f fd ["self"] (spM K cl 1 m_Codes_names) :=
  Fun.fn (k := 0) (g := g_Codes_names) F (by rfl) (sc := ss_Codes_names) (by rfl) (by rfl) sc_Codes_names fun cdv A outer s H E e hr => by
    refine dss_one ?_
    refine ds_ret ?_
    exact (de_callB (c_sortedY (by exact rfl)) (by exact rfl) B.sorted bb_sorted (da_cons (de_fld C.k_Codes (by decide) (de_v 0 (pv 0))) da_nil))
theorem ok_Codes_names {f : Addr} {fd : FuncData} (F : Fun K "names" "Codes.names" st_Codes_names f fd) (hb : Binds K fd ["self"] []) (hm : Meth K (cl "Codes") "names" f) (B : Bt mg) (C : Ct K mg cl) : DfM P w K mg base cl 1 "Codes" "names" ["self"] m_Codes_names :=
  ⟨f, fd, fn_Codes_names F B C, hm, hb⟩
abbrev st_law : Stmt := topS 26
abbrev nm_law : List Str := ["script", "codes", "own", "k", "tries", "rest", "step", "code", "moment", "some", "name"]
def ss_law : Scope := scp [(("script" : Str), NameKind.local), (("tries" : Str), NameKind.local), (("rest" : Str), NameKind.local), (("codes" : Str), NameKind.local), (("own" : Str), NameKind.cell), (("k" : Str), NameKind.local), (("step" : Str), NameKind.local), (("code" : Str), NameKind.cell), (("some" : Str), NameKind.local), (("moment" : Str), NameKind.local), (("_law_drawn" : Str), NameKind.globalImplicit), (("Codes" : Str), NameKind.globalImplicit), (("_law_codes" : Str), NameKind.globalImplicit), (("range" : Str), NameKind.globalImplicit), (("max" : Str), NameKind.globalImplicit), (("min" : Str), NameKind.globalImplicit), (("len" : Str), NameKind.globalImplicit), (("_law_wish" : Str), NameKind.globalImplicit), (("_law_told" : Str), NameKind.globalImplicit), (("_law_answer" : Str), NameKind.globalImplicit), (("sorted" : Str), NameKind.globalImplicit)] [(("fast" : Str), Const.str "script"), (("fast" : Str), Const.str "tries"), (("fast" : Str), Const.str "rest"), (("fast" : Str), Const.str "codes"), (("fast" : Str), Const.str "own"), (("fast" : Str), Const.str "k"), (("fast" : Str), Const.str "step"), (("fast" : Str), Const.str "code"), (("fast" : Str), Const.str "name"), (("fast" : Str), Const.str "some"), (("fast" : Str), Const.str "moment")]
theorem sc_law : FnScope nm_law ["script"] ss_law := ⟨rfl, rfl, rfl, by decide +kernel, rfl, by decide +kernel, by decide +kernel⟩
theorem fn_law {f : Addr} {fd : FuncData} (F : Fun K "law" "law" st_law f fd) (B : Bt mg) (C : Ct K mg cl) (d_law_drawn : Df P w K mg base cl 2 "_law_drawn" ["script", "k", "many"] m_law_drawn) (d_Codes_init : DfC P w K mg base cl 1 "Codes" ["self", "tries", "rest"] m_Codes_init) (d_law_codes : Df P w K mg base cl 1 "_law_codes" ["tries", "rest"] m_law_codes) (d_law_wish : Df P w K mg base cl 3 "_law_wish" ["script", "at", "own"] m_law_wish) (d_law_told : Df P w K mg base cl 3 "_law_told" ["codes", "step"] m_law_told) (d_law_answer : Df P w K mg base cl 2 "_law_answer" ["own", "step"] m_law_answer) (d_Codes_names : DfM P w K mg base cl 1 "Codes" "names" ["self"] m_Codes_names) (d_Codes_who : DfM P w K mg base cl 1 "Codes" "who" ["self", "code"] m_Codes_who) (d_Codes_locked_at : DfM P w K mg base cl 1 "Codes" "locked_at" ["self", "moment"] m_Codes_locked_at) : FnOk P w K mg base (L2.CX P w) 4 f fd ["script"] (spM K cl 1 m_law) :=
  Fun.fn (k := 3) (g := g_law) F (by rfl) (sc := ss_law) (by rfl) (by rfl) sc_law fun cdv A outer s H E e hr => by
    refine dss_cons ?_ ?_
    · refine ds_par (i := 4) (j := 5) (by exact rfl) sc_law.nd (by exact rfl) (by exact rfl) (by decide) (by exact rfl) (by exact rfl) ?_ (by rfl)
      exact (da_cons (de_bin o_add de_int (de_call d_law_drawn hr (by decide) (by exact rfl) (by exact takes_of rfl rfl rfl rfl) (da_cons (de_v 0 (pv 0)) (da_cons de_int (da_cons de_int da_nil))))) (da_cons (de_bin o_add de_int (de_call d_law_drawn hr (by decide) (by exact rfl) (by exact takes_of rfl rfl rfl rfl) (da_cons (de_v 0 (pv 0)) (da_cons de_int (da_cons de_int da_nil))))) da_nil))
    refine dss_cons ?_ ?_
    · refine ds_set (i := 1) sc_law.nd (by exact rfl) (by exact (Or.inl rfl)) ?_
      exact (de_make d_Codes_init hr (by decide) (by exact rfl) (by exact takes_of rfl rfl rfl rfl) (da_cons (de_v 4 (pv 4)) (da_cons (de_v 5 (pv 5)) da_nil)))
    refine dss_cons ?_ ?_
    · refine ds_set (i := 2) sc_law.nd (by exact rfl) (by exact (Or.inr rfl)) ?_
      exact (de_call d_law_codes hr (by decide) (by exact rfl) (by exact takes_of rfl rfl rfl rfl) (da_cons (de_v 4 (pv 4)) (da_cons (de_v 5 (pv 5)) da_nil)))
    refine dss_cons ?_ ?_
    · refine ds_for (b := false) (by exact passes_of rfl) (by exact rfl) ?_ ?_ ?_
      · exact (di_rng1 (by exact rfl) B.range (da_cons (de_callB (c_max (by exact rfl)) (by exact rfl) B.max bb_max (da_cons de_int (da_cons (de_callB (c_min (by exact rfl)) (by exact rfl) B.min bb_min (da_cons de_int (da_cons (de_callB c_len (by exact rfl) B.len bb_len (da_cons (de_v 0 (pv 0)) da_nil)) da_nil))) da_nil))) da_nil))
      · exact (dg_name (i := 3) sc_law.nd (by exact rfl) (by exact (Or.inl rfl)))
      · refine dss_cons ?_ ?_
        · refine ds_set (i := 6) sc_law.nd (by exact rfl) (by exact (Or.inl rfl)) ?_
          exact (de_call d_law_wish hr (by decide) (by exact rfl) (by exact takes_of rfl rfl rfl rfl) (da_cons (de_v 0 (pv 0)) (da_cons (de_bin o_add de_int (de_bin o_mulX de_int (de_v 3 (pv 3)))) (da_cons (de_v 2 (pv 2)) da_nil))))
        refine dss_cons ?_ ?_
        · refine ds_if ?_ ?_ ?_
          · exact (dt_cmp (o_ne (u64 hr)) (de_call d_law_told hr (by decide) (by exact rfl) (by exact takes_of rfl rfl rfl rfl) (da_cons (de_v 1 (pv 1)) (da_cons (de_v 6 (pv 6)) da_nil))) (de_call d_law_answer hr (by decide) (by exact rfl) (by exact takes_of rfl rfl rfl rfl) (da_cons (de_v 2 (pv 2)) (da_cons (de_v 6 (pv 6)) da_nil))) (nomark _))
          · refine dss_one ?_
            refine ds_ret ?_
            exact de_bl
          · exact dss_nil
        refine dss_cons ?_ ?_
        · refine ds_if ?_ ?_ ?_
          · exact (dt_cmp (o_ne (u64 hr)) (de_meth0 d_Codes_names C.k_Codes hr (by decide) (by exact takes_of rfl rfl rfl rfl) (de_v 1 (pv 1))) (de_sortK (by exact rfl) (de_ix (u1 hr) (de_v 2 (pv 2)) de_str) (by exact rfl) B.sorted) (nomark _))
          · refine dss_one ?_
            refine ds_ret ?_
            exact de_bl
          · exact dss_nil
        refine dss_cons ?_ ?_
        · refine ds_for (b := false) (by exact passes_of rfl) (by exact rfl) ?_ ?_ ?_
          · exact (di_seq (de_tup (da_cons de_str (da_cons de_str (da_cons de_str (da_cons de_str (da_cons de_str da_nil)))))))
          · exact (dg_name (i := 7) sc_law.nd (by exact rfl) (by exact (Or.inr rfl)))
          · refine dss_cons ?_ ?_
            · exact ds_setLcK (refAt (f2 gIx (fV 2) (fC (.str "rows")))) (i := 9) (by exact rfl) sc_law.nd (by exact rfl) (by exact rfl) (by exact sw_true rfl rfl rfl (by decide +kernel)) (di_keysC (de_ix (u1 hr) (de_v 2 (pv 2)) de_str)) (by exact blkOk_by (N := nm_law) (sc := ss_law) (own := [("name", 10)]) (by decide +kernel)) (fun _ _ _ _ _ => (eg_name (i := 10) (by decide) sc_law.nd (by exact rfl) (by first | exact Or.inl rfl | exact Or.inr rfl))) (fun _ _ _ _ _ => (dts_one (dt_cmp (o_eq (u64 hr)) (de_ix (u1 hr) (de_ix (u1 hr) (de_ix (u1 hr) (de_v 2 (pv 2)) de_str) (de_v 10 (pv 10))) de_int) (de_v 7 (pv 7)) (nomark _)))) (fun _ _ _ _ _ => (de_v 10 (pv 10)))
            refine dss_one ?_
            refine ds_if ?_ ?_ ?_
            · exact (dt_cmp (o_ne (u64 hr)) (de_meth d_Codes_who C.k_Codes hr (by decide) (by exact takes_of rfl rfl rfl rfl) (de_v 1 (pv 1)) (da_cons (de_v 7 (pv 7)) da_nil)) (de_ifExp (dt_cmp (o_ne (u64 hr)) (de_v 9 (pv 9)) (de_lst da_nil) (nomark _)) (de_ix (u1 hr) (de_v 9 (pv 9)) de_int) de_non) (nomark _))
            · refine dss_one ?_
              refine ds_ret ?_
              exact de_bl
            · exact dss_nil
        refine dss_one ?_
        refine ds_for (b := false) (by exact passes_of rfl) (by exact rfl) ?_ ?_ ?_
        · exact (di_seq (de_tup (da_cons (de_ix (u1 hr) (de_v 2 (pv 2)) de_str) (da_cons (de_ix (u1 hr) (de_v 2 (pv 2)) de_str) (da_cons (de_callB (c_max (by exact rfl)) (by exact rfl) B.max bb_max (da_cons de_int (da_cons (de_bin o_sub (de_ix (u1 hr) (de_v 2 (pv 2)) de_str) de_int) da_nil))) (da_cons (de_bin o_add (de_ix (u1 hr) (de_v 2 (pv 2)) de_str) de_int) da_nil))))))
        · exact (dg_name (i := 8) sc_law.nd (by exact rfl) (by exact (Or.inl rfl)))
        · refine dss_one ?_
          refine ds_if ?_ ?_ ?_
          · exact (dt_cmp (o_ne (u64 hr)) (de_meth d_Codes_locked_at C.k_Codes hr (by decide) (by exact takes_of rfl rfl rfl rfl) (de_v 1 (pv 1)) (da_cons (de_v 8 (pv 8)) da_nil)) (de_chain o_le (o_lt (u64 hr)) (de_ix (u1 hr) (de_v 2 (pv 2)) de_str) (de_v 8 (pv 8)) (de_ix (u1 hr) (de_v 2 (pv 2)) de_str)) (nomark _))
          · refine dss_one ?_
            refine ds_ret ?_
            exact de_bl
          · exact dss_nil
    refine dss_one ?_
    refine ds_ret ?_
    exact de_bl
end
end BW
namespace BW
open PySem L2
def cellF (ns : List Int) (k : Int) : Int := if ns = [] then 7 * k else (ns[(k % (ns.length : Int)).toNat]?).getD 0 + 6553 * (k / (ns.length : Int))
theorem atI_emod {ns : List Int} (h : ns ≠ []) (k : Int) : atI ns (k % (ns.length : Int)) = some ((ns[(k % (ns.length : Int)).toNat]?).getD 0) := by
  have hl : 0 < ns.length := List.length_pos_iff.mpr h
  have h1 : 0 ≤ k % (ns.length : Int) := Int.emod_nonneg k (by omega)
  have h2 : k % (ns.length : Int) < ns.length := Int.emod_lt_of_pos k (by omega)
  have hj : (k % (ns.length : Int)).toNat < ns.length := by omega
  unfold atI ixN
  rw [if_pos h1, if_pos h2]
  simp [hj]
theorem deq_scr_nil (ns : List Int) : deq (.scr ns) (.lst []) = decide (ns = []) := by
  cases ns with
  | nil => rfl
  | cons n ns => rfl
theorem cell_ev (ns : List Int) (hn : ns.length ≤ 63) (k : Int) (S : Store) : m_law_cell [.scr ns, .int k] S = .ok (.int (cellF ns k)) S := by
  have q : gEq false (.scr ns) (.lst []) S = some (.bl (decide (ns = []))) := by rw [eq_ok S false rfl rfl, deq_scr_nil, Bool.false_xor]
  have m1 : ∀ j, gMul (.int 7) (.int j) S = some (.int (7 * j)) := fun j => mul_ok S (.inl (by decide))
  have m2 : ∀ j, gMul (.int 6553) (.int j) S = some (.int (6553 * j)) := fun j => mul_ok S (.inl (by decide))
  have z : ([] : List D).length ≤ LIM := lim_small (by decide)
  unfold m_law_cell g_law_cell
  by_cases h : ns = []
  · subst h
    simp [fV, q, m1, cellF, lim_small]
  · have hl : 0 < ns.length := List.length_pos_iff.mpr h
    have hl2 : (0 : Int) < ns.length := by omega
    have ix : gIx (.scr ns) (.int (k % (ns.length : Int))) S = some (.int ((ns[(k % (ns.length : Int)).toNat]?).getD 0)) := by
      show (atI ns _).map D.int = _
      rw [atI_emod h]; rfl
    simp [fV, q, h, m2, cellF, lim_small, mod_ok S hl2, fdiv_ok S hl2 (show (ns.length : Int) < 1073741824 by omega), ix]
def d1 (ns : List Int) (k : Int) : Int := (cellF ns k % 2147483563 * 69069 + 104723 * (k + 1)) % 2147483563
def d2 (ns : List Int) (k : Int) : Int := (d1 ns k * d1 ns k + d1 ns k / 3) % 2147483399
def drawnF (ns : List Int) (k many : Int) : Int := (d2 ns k * d2 ns k + d2 ns k / 7) % 2147483647 / 11 % many
theorem drawn_ev (ns : List Int) (hn : ns.length ≤ 63) (k many : Int) (hm : 0 < many) (S : Store) : m_law_drawn [.scr ns, .int k, .int many] S = .ok (.int (drawnF ns k many)) S := by
  have a1 : -(2 ^ 64) < cellF ns k % 2147483563 ∧ cellF ns k % 2147483563 < 2 ^ 64 := by omega
  have a2 : -(2 ^ 64) < d1 ns k ∧ d1 ns k < 2 ^ 64 := by unfold d1; omega
  have a3 : -(2 ^ 64) < d2 ns k ∧ d2 ns k < 2 ^ 64 := by unfold d2; omega
  have e1 := mul_ok S (i := cellF ns k % 2147483563) (j := 69069) (.inl a1)
  have e2 := mul_ok S (i := d1 ns k) (j := d1 ns k) (.inl a2)
  have e3 := mul_ok S (i := d2 ns k) (j := d2 ns k) (.inl a3)
  have e4 := mul_ok S (i := 104723) (j := k + 1) (.inl (by decide))
  have f1 := fun i => mod_ok S (i := i) (j := 2147483563) (by decide)
  have f2 := fun i => mod_ok S (i := i) (j := 2147483399) (by decide)
  have f3 := fun i => mod_ok S (i := i) (j := 2147483647) (by decide)
  have f4 := fun i => fdiv_ok S (i := i) (j := 3) (by decide) (by decide)
  have f5 := fun i => fdiv_ok S (i := i) (j := 7) (by decide) (by decide)
  have f6 := fun i => fdiv_ok S (i := i) (j := 11) (by decide) (by decide)
  have f7 := fun i => mod_ok S (i := i) (j := many) hm
  have x1 : (cellF ns k % 2147483563 * 69069 + 104723 * (k + 1)) % 2147483563 = d1 ns k := rfl
  have x2 : (d1 ns k * d1 ns k + d1 ns k / 3) % 2147483399 = d2 ns k := rfl
  unfold m_law_drawn g_law_drawn
  simp [fV, cell_ev ns hn, f1, e1, e4, x1, f4, e2, f2, x2, e3, f5, f3, f6, f7]
  rfl
theorem drawn_lt (ns : List Int) (k : Int) {many : Int} (h : 0 < many) : 0 ≤ drawnF ns k many ∧ drawnF ns k many < many := ⟨Int.emod_nonneg _ (by omega), Int.emod_lt_of_pos _ h⟩
inductive How where
  | soon | late | after | ever
  deriving DecidableEq
def How.s : How → Str
  | .soon => "soon"
  | .late => "late"
  | .after => "after"
  | .ever => "ever"
structure Eye where
  dr : Bool
  num : Int
  how : How
  deriving DecidableEq
def wS (b : Bool) : Str := if b = true then "door" else "room"
def eD (e : Eye) : D := .tup [.str (wS e.dr), .int e.num, .str e.how.s]
def mD (m : List Int) : D := .tup (m.map .int)
structure Hs where
  many : Int
  doors : List (Int × Int)
  eyes : List Eye
  modes : List (List Int)
def hD (h : Hs) : D := .tup [.int h.many, .tup (h.doors.map pD), .tup (h.eyes.map eD), .tup (h.modes.map mD)]
def Eye.ok (many : Int) (nd : Nat) (e : Eye) : Prop := if e.dr = true then 0 ≤ e.num ∧ e.num < nd else 1 ≤ e.num ∧ e.num < many
def modeOk (ne : Nat) (m : List Int) : Prop := (∀ x ∈ m, 0 ≤ x ∧ x < ne) ∧ m.Pairwise (· < ·)
structure Hs.Ok (h : Hs) : Prop where
  many : 2 ≤ h.many ∧ h.many ≤ 6
  doors : ∀ p ∈ h.doors, 0 ≤ p.1 ∧ p.1 < p.2 ∧ p.2 < h.many
  rise : Ri pairK h.doors
  nd : h.doors.length ≤ 10
  eyes : ∀ e ∈ h.eyes, e.ok h.many h.doors.length
  dif : (h.eyes.map fun e => (e.dr, e.num)).Nodup
  ne : h.eyes.length ≤ 12
  nm : 1 ≤ h.modes.length ∧ h.modes.length ≤ 3
  modes : ∀ m ∈ h.modes, modeOk h.eyes.length m
@[simp] theorem how_ok (h : How) : PyData.strOk h.s = true := by cases h <;> exact ofS_ok _
@[simp] theorem wS_ok (b : Bool) : PyData.strOk (wS b) = true := by cases b <;> exact ofS_ok _
@[simp] theorem how_beq (a b : How) : (a.s == b.s) = decide (a = b) := by cases a <;> cases b <;> simp [How.s]
@[simp] theorem wS_beq (a b : Bool) : (wS a == wS b) = (a == b) := by cases a <;> cases b <;> simp [wS]
@[simp] theorem ok_eD (n : Nat) (e : Eye) : okD (n + 1) (eD e) = true := by simp [eD]
@[simp] theorem ok_mD (n : Nat) (e : List Int) : okD (n + 1) (mD e) = true := by simp [mD]
instance (ne : Nat) (m : List Int) : Decidable (modeOk ne m) := by unfold modeOk; exact inferInstance
section
variable (S : Store)
theorem eq_str (neg : Bool) (a b : Str) (ha : PyData.strOk a = true) (hb : PyData.strOk b = true) : gEq neg (.str a) (.str b) S = some (.bl (xor neg (a == b))) := by
  rw [eq_ok S neg (by simpa using ha) (by simpa using hb), deq_str]
end
end BW
namespace BW
open PySem L2
def lo2 (a b : Int) : Int := if b < a then b else a
def hi2 (a b : Int) : Int := if b > a then b else a
def iv (lo : Int) (n : Nat) : List Int := (List.range n).map fun i : Nat => lo + (i : Int)
theorem rng_iv (lo : Int) (n : Nat) : rngD lo n = (iv lo n).map D.int := rng_map lo n
theorem iv_len (lo : Int) (n : Nat) : (iv lo n).length = n := by simp [iv]
end BW
namespace BW
open PySem L2
section
variable (S : Store)
@[simp] theorem ix_h0 (h : Hs) : gIx (hD h) (.int 0) S = some (.int h.many) := rfl
@[simp] theorem ix_h1 (h : Hs) : gIx (hD h) (.int 1) S = some (.tup (h.doors.map pD)) := rfl
@[simp] theorem ix_h2 (h : Hs) : gIx (hD h) (.int 2) S = some (.tup (h.eyes.map eD)) := rfl
@[simp] theorem ix_h3 (h : Hs) : gIx (hD h) (.int 3) S = some (.tup (h.modes.map mD)) := rfl
@[simp] theorem ix_e0 (e : Eye) : gIx (eD e) (.int 0) S = some (.str (wS e.dr)) := rfl
@[simp] theorem ix_e1 (e : Eye) : gIx (eD e) (.int 1) S = some (.int e.num) := rfl
@[simp] theorem ix_e2 (e : Eye) : gIx (eD e) (.int 2) S = some (.str e.how.s) := rfl
@[simp] theorem eq_how (neg : Bool) (a b : How) : gEq neg (.str a.s) (.str b.s) S = some (.bl (xor neg (decide (a = b)))) := by rw [eq_str S neg _ _ (by simp) (by simp), how_beq]
end
end BW
namespace BW
open PySem L2
inductive Wo where
  | off | leaving | set | entering | ringing
  deriving DecidableEq
def Wo.s : Wo → Str
  | .off => "off"
  | .leaving => "leaving"
  | .set => "set"
  | .entering => "entering"
  | .ringing => "ringing"
@[simp] theorem wo_ok (w : Wo) : PyData.strOk w.s = true := by cases w <;> exact ofS_ok _
@[simp] theorem wo_beq (a b : Wo) : (a.s == b.s) = decide (a = b) := by cases a <;> cases b <;> simp [Wo.s]
def oD : Option Int → D
  | none => .non
  | some i => .int i
abbrev Ring := Int × Option Int × Int
def rgD (r : Ring) : D := .tup [.int r.1, oD r.2.1, .int r.2.2]
structure Sd where
  w : Wo
  fin : Option Int
  mode : Option Int
  wo : List Int
  wide : List Int
  last : Int
  rings : List Ring
  cause : Option Int
  rows : List D
def sF (s : Sd) : List (Str × D) := [("word", .str s.w.s), ("end", oD s.fin), ("mode", oD s.mode), ("without", mD s.wo), ("wide", mD s.wide), ("last", .int s.last), ("rings", .tup (s.rings.map rgD)), ("cause", oD s.cause), ("rows", .tup s.rows)]
/-- what a panel is made of -/
structure Pm where
  h : Hs
  lv : Int
  en : Int
  rg : Int
structure Pc where
  pm : Pm
  here : Nat
  gone : List (Str × Nat)
  coming : List (Str × Nat)
def gD (p : Str × Nat) : D := .tup [.str p.1, .ref p.2]
def pF (p : Pc) : List (Str × D) := [("house", hD p.pm.h), ("leaving", .int p.pm.lv), ("entering", .int p.pm.en), ("ringing", .int p.pm.rg), ("here", .ref p.here), ("gone", .lst (p.gone.map gD)), ("coming", .lst (p.coming.map gD))]
section
variable (s : Sd) (d : D)
@[simp] theorem l_word : (sF s).lookup ("word" : Str) = some (.str s.w.s) := by simp [sF, List.lookup]
@[simp] theorem l_end : (sF s).lookup ("end" : Str) = some (oD s.fin) := by simp [sF, List.lookup]
@[simp] theorem l_mode : (sF s).lookup ("mode" : Str) = some (oD s.mode) := by simp [sF, List.lookup]
@[simp] theorem l_without : (sF s).lookup ("without" : Str) = some (mD s.wo) := by simp [sF, List.lookup]
@[simp] theorem l_wide : (sF s).lookup ("wide" : Str) = some (mD s.wide) := by simp [sF, List.lookup]
@[simp] theorem l_last : (sF s).lookup ("last" : Str) = some (.int s.last) := by simp [sF, List.lookup]
@[simp] theorem l_rings : (sF s).lookup ("rings" : Str) = some (.tup (s.rings.map rgD)) := by simp [sF, List.lookup]
@[simp] theorem l_cause : (sF s).lookup ("cause" : Str) = some (oD s.cause) := by simp [sF, List.lookup]
@[simp] theorem l_rows : (sF s).lookup ("rows" : Str) = some (.tup s.rows) := by simp [sF, List.lookup]
@[simp] theorem l_copy : (sF s).lookup ("copy" : Str) = none := by simp [sF, List.lookup]
@[simp] theorem sF_len : (sF s).length = 9 := rfl
end
section
variable (p : Pc)
@[simp] theorem l_house : (pF p).lookup ("house" : Str) = some (hD p.pm.h) := by simp [pF, List.lookup]
@[simp] theorem l_leaving : (pF p).lookup ("leaving" : Str) = some (.int p.pm.lv) := by simp [pF, List.lookup]
@[simp] theorem l_entering : (pF p).lookup ("entering" : Str) = some (.int p.pm.en) := by simp [pF, List.lookup]
@[simp] theorem l_ringing : (pF p).lookup ("ringing" : Str) = some (.int p.pm.rg) := by simp [pF, List.lookup]
@[simp] theorem l_here : (pF p).lookup ("here" : Str) = some (.ref p.here) := by simp [pF, List.lookup]
@[simp] theorem l_gone : (pF p).lookup ("gone" : Str) = some (.lst (p.gone.map gD)) := by simp [pF, List.lookup]
@[simp] theorem l_coming : (pF p).lookup ("coming" : Str) = some (.lst (p.coming.map gD)) := by simp [pF, List.lookup]
@[simp] theorem pF_len : (pF p).length = 7 := rfl
end
end BW
namespace BW
open PySem L2
section
variable {S : Store} {i j : Nat}
theorem lt_of_at {c : Cell} (h : S[i]? = some c) : i < S.length := (List.getElem?_eq_some_iff.mp h).1
end
end BW
namespace BW
open PySem L2
structure Rwc where
  n : Str
  c : Str
  rs : List Str
structure Co where
  tries : Int
  rest : Int
  rows : List Rwc
  misses : Int
  since : Int
  shut : Int
  last : Int
def rwD (r : Rwc) : D := .tup [.str r.c, .tup (r.rs.map .str)]
def rwK (r : Rwc) : Key × D := (.inr r.n, rwD r)
def coF (c : Co) : List (Str × D) := [("tries", .int c.tries), ("rest", .int c.rest), ("rows", .dic (c.rows.map rwK)), ("misses", .int c.misses), ("since", .int c.since), ("shut", .int c.shut), ("last", .int c.last)]
def coC (c : Co) : Cell := .ins "Codes" (coF c)
structure Rwc.Ok (r : Rwc) : Prop where
  n : PyData.strOk r.n = true
  c : PyData.strOk r.c = true
  rs : r.rs.all PyData.strOk = true
structure Co.Ok (c : Co) : Prop where
  few : c.rows.length ≤ 40
  nd : (c.rows.map (·.n)).Nodup
  ok : ∀ r ∈ c.rows, r.Ok
section
variable {S : Store} {i : Nat}
theorem at_c {c : Co} (h : S[i]? = some (coC c)) : insAt "Codes" (.ref i) S = some (i, coF c) := by simp [insAt, h, coC]
end
section
variable (s : Co) (d : D)
@[simp] theorem c_tries : (coF s).lookup ("tries" : Str) = some (.int s.tries) := by simp [coF, List.lookup]
@[simp] theorem c_rest : (coF s).lookup ("rest" : Str) = some (.int s.rest) := by simp [coF, List.lookup]
@[simp] theorem c_rows : (coF s).lookup ("rows" : Str) = some (.dic (s.rows.map rwK)) := by simp [coF, List.lookup]
@[simp] theorem c_misses : (coF s).lookup ("misses" : Str) = some (.int s.misses) := by simp [coF, List.lookup]
@[simp] theorem c_since : (coF s).lookup ("since" : Str) = some (.int s.since) := by simp [coF, List.lookup]
@[simp] theorem c_shut : (coF s).lookup ("shut" : Str) = some (.int s.shut) := by simp [coF, List.lookup]
@[simp] theorem c_last : (coF s).lookup ("last" : Str) = some (.int s.last) := by simp [coF, List.lookup]
@[simp] theorem c_who : (coF s).lookup ("who" : Str) = none := by simp [coF, List.lookup]
@[simp] theorem c_give : (coF s).lookup ("give" : Str) = none := by simp [coF, List.lookup]
@[simp] theorem c_take : (coF s).lookup ("take" : Str) = none := by simp [coF, List.lookup]
@[simp] theorem c_ask : (coF s).lookup ("ask" : Str) = none := by simp [coF, List.lookup]
@[simp] theorem c_names : (coF s).lookup ("names" : Str) = none := by simp [coF, List.lookup]
@[simp] theorem c_locked_at : (coF s).lookup ("locked_at" : Str) = none := by simp [coF, List.lookup]
@[simp] theorem coF_len : (coF s).length = 7 := rfl
theorem q_misses (x : Int) : putFD "misses" (.int x) (coF s) = coF { s with misses := x } := by simp [coF, putFD]
theorem q_since (x : Int) : putFD "since" (.int x) (coF s) = coF { s with since := x } := by simp [coF, putFD]
theorem q_shut (x : Int) : putFD "shut" (.int x) (coF s) = coF { s with shut := x } := by simp [coF, putFD]
theorem q_last (x : Int) : putFD "last" (.int x) (coF s) = coF { s with last := x } := by simp [coF, putFD]
theorem q_rows (x : List Rwc) : putFD "rows" (.dic (x.map rwK)) (coF s) = coF { s with rows := x } := by simp [coF, putFD]
end
section
variable {S : Store} {p : Nat} {c : Co}
theorem cset_same (h : S[p]? = some (coC c)) : S.set p (coC c) = S := by
  refine List.ext_getElem? fun j => ?_
  by_cases e : p = j
  · subst e; rw [List.getElem?_set_self (lt_of_at h), h]
  · rw [List.getElem?_set_ne e]
theorem cat_set (h : S[p]? = some (coC c)) (c' : Co) : insAt "Codes" (.ref p) (S.set p (.ins "Codes" (coF c'))) = some (p, coF c') := by
  refine at_c (c := c') ?_
  rw [List.getElem?_set_self (lt_of_at h)]; rfl
theorem locked_ev (h : S[p]? = some (coC c)) (m : Int) : m_Codes_locked_at [.ref p, .int m] S = .ok (.bl (decide (c.since ≤ m) && decide (m < c.shut))) S := by
  have ac := at_c h
  have q : gLt (.int m) (.int c.shut) S = some (.bl (decide (m < c.shut))) := rfl
  by_cases z : c.since ≤ m <;> simp [m_Codes_locked_at, g_Codes_locked_at, ac, gI2, z, q]
theorem ge_i (S : Store) (a b : Int) : gGe (.int a) (.int b) S = some (.bl (decide (b ≤ a))) := rfl
def whoF (rows : List Rwc) (code : Str) : Option Rwc := rows.find? fun r => r.c == code
def oN (o : Option Rwc) : D := match o with
  | none => .non
  | some r => .str r.n
theorem val_row {rows : List Rwc} (nd : (rows.map (·.n)).Nodup) {r : Rwc} (hr : r ∈ rows) : valD (rows.map rwK) (.inr r.n) = some (rwD r) := by
  unfold valD
  induction rows with
  | nil => cases hr
  | cons q rows ih =>
    rw [List.map_cons, List.nodup_cons] at nd
    rw [List.map_cons]
    rcases List.mem_cons.mp hr with e | hr'
    · subst e
      rw [List.find?_cons_of_pos (by simp [rwK])]
      rfl
    · rw [List.find?_cons_of_neg (by
        simp only [rwK, decide_eq_true_eq]
        intro z
        have z := Sum.inr.inj (of_decide_eq_true z)
        rw [z] at nd
        exact nd.1 (List.mem_map_of_mem (f := fun r : Rwc => r.n) hr'))]
      exact ih nd.2 hr'
theorem val_none {rows : List Rwc} {n : Str} (h : n ∉ rows.map (·.n)) : valD (rows.map rwK) (.inr n) = none := by
  unfold valD
  rw [Option.map_eq_none_iff, List.find?_eq_none]
  intro kv hkv
  obtain ⟨r, hr, rfl⟩ := List.mem_map.mp hkv
  simp only [rwK, decide_eq_true_eq]
  intro z
  have z := Sum.inr.inj (of_decide_eq_true z)
  rw [← z] at h
  exact h (List.mem_map_of_mem (f := fun r : Rwc => r.n) hr)
theorem find_head (p : Rwc → Bool) : ∀ l : List Rwc, l.find? p = (l.filter p).head?
  | [] => rfl
  | x :: l => by
    by_cases h : p x = true
    · rw [List.find?_cons_of_pos h, List.filter_cons_of_pos h]; rfl
    · rw [List.find?_cons_of_neg h, List.filter_cons_of_neg h]; exact find_head p l
theorem who_ev (h : S[p]? = some (coC c)) (ok : c.Ok) (code : Str) (hc : PyData.strOk code = true) : m_Codes_who [.ref p, .str code] S = .ok (oN (whoF c.rows code)) S := by
  have ac := at_c h
  have few := ok.few
  have cm := compT (e := fun r : Rwc => D.str r.n) (t := tgName 3) (ft := fB (f2 (gEq false) (f2 gIx (f2 gIx (fFld "Codes" "rows" (fV 0)) (fV 3)) (fC (.int 0))) (fV 1))) (fe := fV 3) (ρ := [some (.dat (.ref p)), some (.dat (.str code)), none, none]) (S := S) (fun r => r.c == code) (fun r => .str r.n) (xs := c.rows) (by omega) (fun r hr => by
      have hv := val_row ok.nd hr
      have i0 : gIx (rwD r) (.int 0) S = some (.str r.c) := rfl
      have q := eq_str S false r.c code (ok.ok r hr).c hc
      rw [Bool.false_xor] at q
      exact ⟨_, rfl, by simp [ac, hv, i0, q], fun _ => by simp⟩)
  have it : (c.rows.map rwK).map (fun kv => kD kv.1) = c.rows.map fun r => D.str r.n := by
    rw [List.map_map]; rfl
  have okl : okD 12 (.lst ((c.rows.filter fun r => r.c == code).map fun r => D.str r.n)) = true := by
    simp only [okD, List.all_eq_true]
    intro d hd
    obtain ⟨r, hr, rfl⟩ := List.mem_map.mp hd
    exact (ok.ok r (List.mem_filter.mp hr).1).n
  unfold whoF
  rw [find_head]
  cases hw : (c.rows.filter fun r => r.c == code) with
  | nil =>
    rw [hw] at cm okl
    have q : gEq true (.lst []) (.lst []) S = some (.bl false) := rfl
    simp -implicitDefEqProofs [m_Codes_who, g_Codes_who, ac, it, wipeE, cm, lim_small, q, oN]
  | cons x l =>
    rw [hw] at cm okl
    have q : gEq true (.lst ((x :: l).map fun r => D.str r.n)) (.lst []) S = some (.bl true) := by
      rw [eq_ok S true okl rfl]; rfl
    have ix : gIx (.lst ((x :: l).map fun r => D.str r.n)) (.int 0) S = some (.str x.n) := by rw [ix_lst _ _ (by decide)]; rfl
    generalize ((x :: l).map fun r => D.str r.n) = L at *
    simp -implicitDefEqProofs [m_Codes_who, g_Codes_who, ac, it, wipeE, cm, lim_small, q, ix, oN]
abbrev CR := Except Str D × Co
def lockB (c : Co) (m : Int) : Bool := decide (c.since ≤ m) && decide (m < c.shut)
def wrongF (c : Co) (m : Int) : Co := if c.tries ≤ c.misses + 1 then { c with last := m, misses := 0, since := m, shut := m + c.rest } else { c with last := m, misses := c.misses + 1 }
def askF (c : Co) (code : Str) (m : Int) (right : Str) : CR :=
  if m < c.last then (.error "NoTime", c) else if lockB c m = true then (.error "Locked", c) else match whoF c.rows code with
    | none => (.error "Wrong", wrongF c m)
    | some r => if r.rs.any (· == right) = true then (.ok (.str r.n), { c with last := m, misses := 0 }) else (.error "NoRight", { c with last := m, misses := 0 })
def resC (S : Store) (p : Nat) (r : CR) : Res D := match r.1 with
  | .ok d => .ok d (S.set p (coC r.2))
  | .error x => .err x (S.set p (coC r.2))
theorem who_mem {rows : List Rwc} {code : Str} {r : Rwc} (h : whoF rows code = some r) : r ∈ rows ∧ r.c = code := by
  unfold whoF at h
  exact ⟨List.mem_of_find?_eq_some h, by simpa using List.find?_some h⟩
theorem ask_ev (h : S[p]? = some (coC c)) (ok : c.Ok) {code right : Str} (m : Int) (hc : PyData.strOk code = true) (hr : PyData.strOk right = true) : m_Codes_ask [.ref p, .str code, .int m, .str right] S = resC S p (askF c code m right) := by
  have ac := at_c h
  have lt := lt_of_at h
  have q1 : gLt (.int m) (.int c.last) S = some (.bl (decide (m < c.last))) := rfl
  have lk := locked_ev h m
  unfold askF
  by_cases h1 : m < c.last
  · rw [if_pos h1]
    rw [decide_eq_true h1] at q1
    simp only [resC, cset_same h]
    simp -implicitDefEqProofs [m_Codes_ask, g_Codes_ask, ac, q1]
  · rw [if_neg h1]
    rw [decide_eq_false h1] at q1
    by_cases h2 : lockB c m = true
    · rw [if_pos h2]
      rw [show (decide (c.since ≤ m) && decide (m < c.shut)) = true from h2] at lk
      simp only [resC, cset_same h]
      simp -implicitDefEqProofs [m_Codes_ask, g_Codes_ask, ac, q1, lk]
    · rw [if_neg h2]
      rw [show (decide (c.since ≤ m) && decide (m < c.shut)) = false by simpa [lockB] using h2] at lk
      have ok' : ({ c with last := m } : Co).Ok := ⟨ok.few, ok.nd, ok.ok⟩
      have wv := who_ev (S := S.set p (coC { c with last := m })) (p := p) (c := { c with last := m }) (by rw [List.getElem?_set_self lt]) ok' code hc
      unfold coC at wv
      have wv : m_Codes_who [.ref p, .str code] (S.set p (.ins "Codes" (coF { c with last := m }))) = .ok (oN (whoF c.rows code)) (S.set p (.ins "Codes" (coF { c with last := m }))) := wv
      have as := fun c' => cat_set h c'
      cases hw : whoF c.rows code with
      | none =>
        rw [hw] at wv
        simp only [oN] at wv
        have q2 := fun S => ge_i S (c.misses + 1) c.tries
        by_cases h3 : c.tries ≤ c.misses + 1
        · simp only [wrongF, if_pos h3, resC, coC]
          simp only [decide_eq_true h3] at q2
          simp -implicitDefEqProofs [m_Codes_ask, g_Codes_ask, ac, q1, lk, q_last, q_misses, q_since, q_shut, as, wv, gIs, isNonD, q2]
        · simp only [wrongF, if_neg h3, resC, coC]
          simp only [decide_eq_false h3] at q2
          simp -implicitDefEqProofs [m_Codes_ask, g_Codes_ask, ac, q1, lk, q_last, q_misses, q_since, q_shut, as, wv, gIs, isNonD, q2]
      | some r =>
        rw [hw] at wv
        simp only [oN] at wv
        obtain ⟨hm, _⟩ := who_mem hw
        have hv := val_row ok.nd hm
        have i1 : ∀ S, gIx (rwD r) (.int 1) S = some (.tup (r.rs.map .str)) := fun S => rfl
        have q := fun S => in_strs S true right r.rs hr (ok.ok r hm).rs
        simp only
        cases hb : r.rs.any (· == right) with
        | true =>
          simp only [hb, Bool.xor_true, Bool.not_true] at q
          simp only [if_true, resC, coC]
          simp -implicitDefEqProofs [m_Codes_ask, g_Codes_ask, ac, q1, lk, q_last, q_misses, as, wv, gIs, isNonD, hv, i1, q]
        | false =>
          simp only [hb, Bool.xor_false] at q
          simp only [Bool.false_eq_true, if_false, resC, coC]
          simp -implicitDefEqProofs [m_Codes_ask, g_Codes_ask, ac, q1, lk, q_last, q_misses, as, wv, gIs, isNonD, hv, i1, q]
def giveF (c : Co) (r : Rwc) : CR := if r.n ∈ c.rows.map (·.n) ∨ (whoF c.rows r.c).isSome = true then (.error "Taken", c) else (.ok (.int ((c.rows.length + 1 : Nat) : Int)), { c with rows := c.rows ++ [r] })
def takeF (c : Co) (n : Str) : CR := match c.rows.find? (fun r => r.n == n) with
  | none => (.error "NoName", c)
  | some r => (.ok (rwD r), { c with rows := c.rows.filter fun q => !(q.n == n) })
theorem putD_new {kvs : List (Key × D)} {k : Key} {v : D} (h : valD kvs k = none) : putD kvs k v = kvs ++ [(k, v)] := by
  unfold putD
  rw [if_neg]
  intro ha
  obtain ⟨kv, hkv, e⟩ := List.any_eq_true.mp ha
  simp only [valD, Option.map_eq_none_iff] at h
  exact (List.find?_eq_none.mp h) kv hkv e
theorem inX_dic (S : Store) (neg : Bool) (l : List (Key × D)) (x : Str) : gInX neg (.str x) (.dic l) S = some (.bl (xor neg (valD l (.inr x)).isSome)) := rfl
theorem give_ev (h : S[p]? = some (coC c)) (ok : c.Ok) {r : Rwc} (k : r.Ok) (h1 : ∀ S, m_is_name [.str r.n] S = .ok (.bl true) S) (h2 : ∀ S, m_is_code [.str r.c] S = .ok (.bl true) S) (h3 : ∀ S, m_are_rights [.tup (r.rs.map .str)] S = .ok (.bl true) S) : m_Codes_give [.ref p, .str r.n, .str r.c, .tup (r.rs.map .str)] S = resC S p (giveF c r) := by
  have ac := at_c h
  have lt := lt_of_at h
  have few := ok.few
  have wv := who_ev h ok r.c k.c
  have i1 := inX_dic S false (c.rows.map rwK) r.n
  unfold giveF
  by_cases z : r.n ∈ c.rows.map (·.n)
  · rw [if_pos (.inl z)]
    obtain ⟨q, hq, e⟩ := List.mem_map.mp z
    have vr := val_row ok.nd hq
    rw [e] at vr
    rw [vr] at i1
    simp only [resC, cset_same h]
    simp -implicitDefEqProofs [m_Codes_give, g_Codes_give, h1, h2, h3, ac, i1]
  · have vn := val_none z
    rw [vn] at i1
    cases hw : whoF c.rows r.c with
    | some q =>
      rw [hw] at wv
      simp only [oN] at wv
      rw [if_pos (.inr rfl)]
      simp only [resC, cset_same h]
      simp -implicitDefEqProofs [m_Codes_give, g_Codes_give, h1, h2, h3, ac, i1, wv, gIs, isNonD]
    | none =>
      rw [hw] at wv
      simp only [oN] at wv
      rw [if_neg (by simp [z])]
      have pd := putD_new (v := D.tup [.str r.c, .tup (r.rs.map .str)]) vn
      have em : c.rows.map rwK ++ [(.inr r.n, D.tup [.str r.c, .tup (r.rs.map .str)])] = (c.rows ++ [r]).map rwK := by rw [List.map_append]; rfl
      rw [em] at pd
      have hl : c.rows.length < LIM := limlt_small (by omega)
      have hl2 : ((c.rows ++ [r]).map rwK).length = c.rows.length + 1 := by simp
      have hl3 : c.rows.length + 1 ≤ LIM := lim_small (by omega)
      have qr := q_rows c (c.rows ++ [r])
      have e1 : resC S p (.ok (.int ((c.rows.length + 1 : Nat) : Int)), { c with rows := c.rows ++ [r] }) = .ok (.int ((c.rows.length + 1 : Nat) : Int)) (S.set p (.ins "Codes" (coF { c with rows := c.rows ++ [r] }))) := rfl
      rw [e1]
      generalize (c.rows ++ [r]).map rwK = L2 at *
      generalize r.rs.map D.str = RS at *
      simp -implicitDefEqProofs [m_Codes_give, g_Codes_give, h1, h2, h3, ac, i1, wv, gIs, isNonD, sPutOwnD, sFreeze, keyD, hl, lim_small, pd, qr, hl2, hl3]
end
end BW
namespace BW
open PySem L2
section
variable {S : Store} {p : Nat} {c : Co}
theorem find_n {rows : List Rwc} {n : Str} {r : Rwc} (h : rows.find? (fun r => r.n == n) = some r) : r ∈ rows ∧ r.n = n := ⟨List.mem_of_find?_eq_some h, by simpa using List.find?_some h⟩
theorem find_no {rows : List Rwc} {n : Str} (h : rows.find? (fun r => r.n == n) = none) : n ∉ rows.map (·.n) := by
  intro z
  obtain ⟨r, hr, e⟩ := List.mem_map.mp z
  have := List.find?_eq_none.mp h r hr
  simp [e] at this
theorem pairs_map : ∀ l : List Rwc, pairs? (l.map fun r => D.tup [.str r.n, rwD r]) = some (l.map rwK)
  | [] => rfl
  | r :: l => by
    rw [List.map_cons, List.map_cons]
    simp only [pairs?, keyD, pairs_map l]
    rfl
theorem merge_new : ∀ (l acc : List Rwc), ((acc ++ l).map (·.n)).Nodup → mergeD (acc.map rwK) (l.map rwK) = (acc ++ l).map rwK
  | [], acc, _ => by simp [mergeD]
  | r :: l, acc, nd => by
    have hn : r.n ∉ acc.map (·.n) := by
      rw [List.map_append, List.nodup_append] at nd
      intro z
      exact nd.2.2 r.n z r.n (by simp) rfl
    have e1 : mergeD (acc.map rwK) ((r :: l).map rwK) = mergeD (putD (acc.map rwK) (.inr r.n) (rwD r)) (l.map rwK) := rfl
    rw [e1, putD_new (val_none hn), show acc.map rwK ++ [(.inr r.n, rwD r)] = (acc ++ [r]).map rwK by rw [List.map_append]; rfl, merge_new l (acc ++ [r]) (by simpa using nd)]
    simp
theorem take_ev (h : S[p]? = some (coC c)) (ok : c.Ok) {n : Str} (hn : PyData.strOk n = true) : m_Codes_take [.ref p, .str n] S = resC S p (takeF c n) := by
  have ac := at_c h
  have lt := lt_of_at h
  have few := ok.few
  have i1 := inX_dic S true (c.rows.map rwK) n
  unfold takeF
  cases hf : c.rows.find? (fun r => r.n == n) with
  | none =>
    have vn := val_none (find_no hf)
    rw [vn] at i1
    simp only [resC, cset_same h]
    simp -implicitDefEqProofs [m_Codes_take, g_Codes_take, ac, i1]
  | some r =>
    obtain ⟨hr, e⟩ := find_n hf
    have vr := val_row ok.nd hr
    rw [e] at vr
    rw [vr] at i1
    have cm := compT (e := fun r : Rwc => D.str r.n) (t := tgName 3) (ft := fB (f2 (gEq true) (fV 3) (fV 1))) (fe := fTup (fCons (fV 3) (fCons (f2 gIx (fFld "Codes" "rows" (fV 0)) (fV 3)) fNil))) (ρ := [some (.dat (.ref p)), some (.dat (.str n)), some (.dat (rwD r)), none]) (S := S) (fun q => !(q.n == n)) (fun q => .tup [.str q.n, rwD q]) (xs := c.rows) (by omega) (fun q hq => by
      have hv := val_row ok.nd hq
      have qq := eq_str S true q.n n (ok.ok q hq).n hn
      rw [Bool.true_xor] at qq
      exact ⟨_, rfl, by simp [qq], fun _ => by simp [ac, hv, lim_small]⟩)
    have it : (c.rows.map rwK).map (fun kv => kD kv.1) = c.rows.map fun r => D.str r.n := by
      rw [List.map_map]; rfl
    have pm := pairs_map (c.rows.filter fun q => !(q.n == n))
    have mg := merge_new (c.rows.filter fun q => !(q.n == n)) [] (by
      rw [List.nil_append]
      exact ok.nd.sublist ((List.filter_sublist).map _))
    rw [List.nil_append] at mg
    have gd : gDictP [.lst ((c.rows.filter fun q => !(q.n == n)).map fun q => D.tup [.str q.n, rwD q])] S = some (.dic ((c.rows.filter fun q => !(q.n == n)).map rwK)) := by
      show (pairs? _).map _ = _
      rw [pm]
      show some (D.dic (mergeD [] _)) = _
      rw [show ([] : List (Key × D)) = ([] : List Rwc).map rwK from rfl, mg]
    have qr := q_rows c (c.rows.filter fun q => !(q.n == n))
    have e1 : resC S p (.ok (rwD r), { c with rows := c.rows.filter fun q => !(q.n == n) }) = .ok (rwD r) (S.set p (.ins "Codes" (coF { c with rows := c.rows.filter fun q => !(q.n == n) }))) := rfl
    show _ = resC S p (.ok (rwD r), { c with rows := c.rows.filter fun q => !(q.n == n) })
    rw [e1]
    generalize (c.rows.filter fun q => !(q.n == n)) = L at *
    generalize (L.map fun q => D.tup [.str q.n, rwD q]) = L1 at *
    generalize L.map rwK = L2 at *
    simp -implicitDefEqProofs [m_Codes_take, g_Codes_take, ac, i1, vr, it, wipeE, cm, gd, qr]
theorem skeysR : ∀ l : List Rwc, skeys? (l.map rwK) = some (l.map (·.n))
  | [] => rfl
  | r :: l => by
    rw [List.map_cons]
    simp only [rwK, skeys?, List.map_cons]
    rw [skeysR l]
    rfl
theorem names_ev (h : S[p]? = some (coC c)) (ok : c.Ok) : m_Codes_names [.ref p] S = .ok (.lst ((ssort (c.rows.map (·.n))).map .str)) S := by
  have ac := at_c h
  have few := ok.few
  have gs : gSortedX [.dic (c.rows.map rwK)] S = some (.lst ((ssort (c.rows.map (·.n))).map .str)) := by
    show (skeys? _).bind _ = _
    rw [skeysR]
    show (if _ then _ else _) = _
    rw [if_pos (by simp; omega)]
  simp -implicitDefEqProofs [m_Codes_names, g_Codes_names, ac, gs]
theorem ask_ok (ok : c.Ok) (code right : Str) (m : Int) : (askF c code m right).2.Ok := by
  unfold askF
  split
  · exact ok
  · split
    · exact ok
    · split
      · unfold wrongF
        split <;> exact ⟨ok.few, ok.nd, ok.ok⟩
      · split <;> exact ⟨ok.few, ok.nd, ok.ok⟩
theorem give_ok (ok : c.Ok) {r : Rwc} (k : r.Ok) (few : c.rows.length ≤ 39) : (giveF c r).2.Ok := by
  unfold giveF
  split
  · exact ok
  · rename_i h
    refine ⟨by simp; omega, ?_, fun q hq => ?_⟩
    · show ((c.rows ++ [r]).map (·.n)).Nodup
      rw [List.map_append, List.nodup_append]
      refine ⟨ok.nd, by simp, fun a ha b hb e => ?_⟩
      rw [List.map_cons, List.map_nil, List.mem_singleton] at hb
      subst hb e
      exact h (.inl ha)
    · rcases List.mem_append.mp hq with z | z
      · exact ok.ok q z
      · rw [List.mem_singleton.mp z]; exact k
theorem take_ok (ok : c.Ok) (n : Str) : (takeF c n).2.Ok := by
  unfold takeF
  split
  · exact ok
  · refine ⟨Nat.le_trans (List.length_filter_le _ _) ok.few, ok.nd.sublist ((List.filter_sublist).map _), fun q hq => ok.ok q (List.mem_filter.mp hq).1⟩
def co0 (t r : Int) : Co := ⟨t, r, [], 0, 0, 0, 0⟩
theorem co0_ok (t r : Int) : (co0 t r).Ok := ⟨by simp [co0], by simp [co0], fun _ z => (by cases z)⟩
theorem cinit_ev (S : Store) (t r : Int) : m_Codes_init [.ref S.length, .int t, .int r] (S ++ [.ins "Codes" []]) = .ok .non (S ++ [coC (co0 t r)]) := by
  have i2 : ∀ (fs : List (Str × D)), insAt "Codes" (.ref S.length) (S ++ [.ins "Codes" fs]) = some (S.length, fs) := fun fs => by simp [insAt]
  have s2 : ∀ c e : Cell, (S ++ [c]).set S.length e = S ++ [e] := fun c e => by simp
  simp -implicitDefEqProofs [m_Codes_init, g_Codes_init, i2, s2, putFD, coC, coF, co0]
end
end BW
namespace BW
open PySem L2
def ocL (r : Nat) (c : Co) : List (Key × D) := [(.inr "tries", .int c.tries), (.inr "rest", .int c.rest), (.inr "rows", .ref r), (.inr "misses", .int c.misses), (.inr "since", .int c.since), (.inr "shut", .int c.shut), (.inr "last", .int c.last)]
structure OAt (S : Store) (o r : Nat) (c : Co) : Prop where
  co : S[o]? = some (.dic (ocL r c))
  cr : S[r]? = some (.dic (c.rows.map rwK))
  ne : o ≠ r
section
variable (r : Nat) (c : Co)
theorem v_last : valD (ocL r c) (.inr "last") = some (.int c.last) := by kernel_rfl
theorem v_since : valD (ocL r c) (.inr "since") = some (.int c.since) := by kernel_rfl
theorem v_shut : valD (ocL r c) (.inr "shut") = some (.int c.shut) := by kernel_rfl
theorem v_rows : valD (ocL r c) (.inr "rows") = some (.ref r) := by kernel_rfl
theorem v_misses : valD (ocL r c) (.inr "misses") = some (.int c.misses) := by kernel_rfl
theorem v_tries : valD (ocL r c) (.inr "tries") = some (.int c.tries) := by kernel_rfl
theorem v_rest : valD (ocL r c) (.inr "rest") = some (.int c.rest) := by kernel_rfl
theorem w_last (m : Int) : putD (ocL r c) (.inr "last") (.int m) = ocL r { c with last := m } := by kernel_rfl
theorem w_misses (m : Int) : putD (ocL r c) (.inr "misses") (.int m) = ocL r { c with misses := m } := by kernel_rfl
theorem w_since (m : Int) : putD (ocL r c) (.inr "since") (.int m) = ocL r { c with since := m } := by kernel_rfl
theorem w_shut (m : Int) : putD (ocL r c) (.inr "shut") (.int m) = ocL r { c with shut := m } := by kernel_rfl
theorem oc_len : (ocL r c).length = 7 := rfl
end
end BW
namespace BW
open PySem L2
abbrev ee (x : D) : Option Slot := some (.dat x)
def eNo (x : Str) : Int := if x == "NoName" then 0 else if x == "NoCode" then 1 else if x == "NoRight" then 2 else if x == "Taken" then 3 else if x == "NoTime" then 4 else if x == "Locked" then 5 else 6
def toldD : Except Str D → D
  | .ok d => d
  | .error x => .tup [.str "refused", .int (eNo x)]
theorem en1 : eNo "NoTime" = 4 := by decide +kernel
theorem en2 : eNo "Locked" = 5 := by decide +kernel
theorem en3 : eNo "Wrong" = 6 := by decide +kernel
theorem en4 : eNo "NoRight" = 2 := by decide +kernel
theorem dic_at {S : Store} {o : Nat} {l : List (Key × D)} (h : S[o]? = some (.dic l)) : dicAt (.ref o) S = some (o, l) := by simp only [dicAt, h]
theorem ix_dic {S : Store} {o : Nat} {l : List (Key × D)} (h : S[o]? = some (.dic l)) (x : Str) : gIx (.ref o) (.str x) S = valD l (.inr x) := by simp only [gIx, h, keyD, Option.bind]
theorem ix_dicL {S : Store} {o : Nat} {l : List (Key × D)} (h : S[o]? = some (.dicL l)) (x : Str) : gIx (.ref o) (.str x) S = valD l (.inr x) := by simp only [gIx, h, keyD, Option.bind]
theorem dset_same {S : Store} {o : Nat} {c : Cell} (h : S[o]? = some c) : S.set o c = S := by
  refine List.ext_getElem? fun j => ?_
  by_cases e : o = j
  · subst e; rw [List.getElem?_set_self (lt_of_at h), h]
  · rw [List.getElem?_set_ne e]
/-- the names of a code -/
theorem names_lk {S : Store} {o r : Nat} {c : Co} (h : OAt S o r c) (ok : c.Ok) {code : Str} (hc : PyData.strOk code = true) (r2 r3 r4 : Option Slot) :
    fLk (refAt (f2 gIx (fV 0) (fC (.str "rows")))) (fFrz (fComp (fItemsC (f2 gIx (fV 0) (fC (.str "rows")))) (tgName 5) (fB (f2 (gEq false) (f2 gIx (f2 gIx (f2 gIx (fV 0) (fC (.str "rows"))) (fV 5)) (fC (.int 0))) (fV 1))) (fV 5) [5])) [ee (.ref o), ee (.str code), r2, r3, r4, none] S = .ok (.lst ((c.rows.filter fun q => q.c == code).map fun q => .str q.n)) S := by
  have i1 := ix_dic h.co "rows"
  rw [v_rows] at i1
  have few := ok.few
  have hr1 : (S.set r (.dicL (c.rows.map rwK)))[r]? = some (.dicL (c.rows.map rwK)) := by rw [List.getElem?_set_self (lt_of_at h.cr)]
  have ho1 : (S.set r (.dicL (c.rows.map rwK)))[o]? = some (.dic (ocL r c)) := by rw [List.getElem?_set_ne (Ne.symm h.ne)]; exact h.co
  have i2 := ix_dic ho1 "rows"
  rw [v_rows] at i2
  have i3 := fun n => ix_dicL hr1 n
  have back : (S.set r (.dicL (c.rows.map rwK))).set r (.dic (c.rows.map rwK)) = S := by rw [List.set_set]; exact dset_same h.cr
  have it : (c.rows.map rwK).map (fun kv => kD kv.1) = c.rows.map fun q => D.str q.n := by rw [List.map_map]; rfl
  have hr := h.cr
  generalize hS1 : S.set r (.dicL (c.rows.map rwK)) = S1 at *
  have cm := compT (e := fun q : Rwc => D.str q.n) (t := tgName 5) (ft := (fB (f2 (gEq false) (f2 gIx (f2 gIx (f2 gIx (fV 0) (fC (.str "rows"))) (fV 5)) (fC (.int 0))) (fV 1)))) (fe := fV 5) (ρ := [ee (.ref o), ee (.str code), r2, r3, r4, none]) (S := S1) (fun q => q.c == code) (fun q => .str q.n) (xs := c.rows) (by omega) (fun q hq => by
    have hv := val_row ok.nd hq
    have j1 : gIx (rwD q) (.int 0) S1 = some (.str q.c) := rfl
    have qq := eq_str S1 false q.c code (ok.ok q hq).c hc
    rw [Bool.false_xor] at qq
    exact ⟨_, rfl, by simp [i2, i3, hv, j1, qq], fun _ => by simp⟩)
  generalize (c.rows.filter fun q => q.c == code).map (fun q => D.str q.n) = L at *
  have ra : refAt (f2 gIx (fV 0) (fC (.str "rows"))) [ee (.ref o), ee (.str code), r2, r3, r4, none] S = some r := by
    simp -implicitDefEqProofs [refAt, i1]
  unfold fLk
  rw [ra]
  simp only [hr, hS1]
  have fv : fFrz (fComp (fItemsC (f2 gIx (fV 0) (fC (.str "rows")))) (tgName 5) (fB (f2 (gEq false) (f2 gIx (f2 gIx (f2 gIx (fV 0) (fC (.str "rows"))) (fV 5)) (fC (.int 0))) (fV 1))) (fV 5) [5]) [ee (.ref o), ee (.str code), r2, r3, r4, none] S1 = .ok (.lst L) S1 := by
    simp -implicitDefEqProofs [fItemsC, i2, hr1, it, wipeE, cm]
  rw [fv]
  simp only [hr1, back]
theorem asks_ev {S : Store} {o r : Nat} {c : Co} (h : OAt S o r c) (ok : c.Ok) {code right : Str} (m : Int) (hc : PyData.strOk code = true) (hright : PyData.strOk right = true) (ht : c.misses < c.tries) :
    m_law_asks [.ref o, .str code, .int m, .str right] S = .ok (toldD (askF c code m right).1) (S.set o (.dic (ocL r (askF c code m right).2))) := by
  have lt := lt_of_at h.co
  have il := ix_dic h.co "last"
  rw [v_last] at il
  have isi := ix_dic h.co "since"
  rw [v_since] at isi
  have ish := ix_dic h.co "shut"
  rw [v_shut] at ish
  have q1 : gLt (.int m) (.int c.last) S = some (.bl (decide (m < c.last))) := rfl
  have q2 : gLe (.int c.since) (.int m) S = some (.bl (decide (c.since ≤ m))) := rfl
  have q3 : gLt (.int m) (.int c.shut) S = some (.bl (decide (m < c.shut))) := rfl
  have da := dic_at h.co
  have z2 : (2 : Nat) ≤ LIM := lim_small (by decide)
  have z3 : (3 : Nat) ≤ LIM := lim_small (by decide)
  have z7 : (7 : Nat) < LIM := limlt_small (by decide)
  unfold askF
  by_cases h1 : m < c.last
  · rw [if_pos h1]
    rw [decide_eq_true h1] at q1
    simp only [toldD, en1, dset_same h.co]
    simp -implicitDefEqProofs [m_law_asks, g_law_asks, il, q1, z2]
  · rw [if_neg h1]
    rw [decide_eq_false h1] at q1
    by_cases h2 : lockB c m = true
    · rw [if_pos h2]
      unfold lockB at h2
      rw [Bool.and_eq_true] at h2
      rw [h2.1] at q2
      rw [h2.2] at q3
      simp only [toldD, en2, dset_same h.co]
      simp -implicitDefEqProofs [m_law_asks, g_law_asks, il, q1, isi, q2, ish, q3, z2]
    · rw [if_neg h2]
      have h1' : OAt (S.set o (.dic (ocL r { c with last := m }))) o r { c with last := m } := ⟨by rw [List.getElem?_set_self lt], by rw [List.getElem?_set_ne h.ne]; exact h.cr, h.ne⟩
      have ok' : ({ c with last := m } : Co).Ok := ⟨ok.few, ok.nd, ok.ok⟩
      have nm := names_lk h1' ok' hc (ee (.int m)) (ee (.str right)) none
      have nm : _ = Res.ok (D.lst ((c.rows.filter fun q => q.c == code).map fun q => .str q.n)) _ := nm
      have at' : ∀ c' : Co, dicAt (.ref o) (S.set o (.dic (ocL r c'))) = some (o, ocL r c') := fun c' => dic_at (by rw [List.getElem?_set_self lt])
      have ix' : ∀ (c' : Co) (x : Str), gIx (.ref o) (.str x) (S.set o (.dic (ocL r c'))) = valD (ocL r c') (.inr x) := fun c' x => ix_dic (by rw [List.getElem?_set_self lt]) x
      have ixr : ∀ (c' : Co) (x : Str), gIx (.ref r) (.str x) (S.set o (.dic (ocL r c'))) = valD (c.rows.map rwK) (.inr x) := fun c' x => ix_dic (by rw [List.getElem?_set_ne h.ne]; exact h.cr) x
      have lkt : ∃ b1 b2, q2 = q2 ∧ (decide (c.since ≤ m)) = b1 ∧ (decide (m < c.shut)) = b2 ∧ (b1 && b2) = false := ⟨_, _, rfl, rfl, rfl, by simpa [lockB] using h2⟩
      obtain ⟨b1, b2, _, e1, e2, e3⟩ := lkt
      rw [e1] at q2
      rw [e2] at q3
      unfold whoF
      rw [find_head]
      have okl : okD 12 (.lst ((c.rows.filter fun q => q.c == code).map fun q => D.str q.n)) = true := by
        simp only [okD, List.all_eq_true]
        intro d hd
        obtain ⟨q, hq, rfl⟩ := List.mem_map.mp hd
        exact (ok.ok q (List.mem_filter.mp hq).1).n
      have chainF : ∀ ρ : Env, ρ[0]? = some (ee (.ref o)) → ρ[2]? = some (ee (.int m)) → fB (fChain gLe gLt (f2 gIx (fV 0) (fC (.str "since"))) (fV 2) (f2 gIx (fV 0) (fC (.str "shut")))) ρ S = .ok false S := by
        intro ρ z0 z2'
        have v0 : fV 0 ρ S = .ok (.ref o) S := by unfold fV; rw [z0]
        have v2 : fV 2 ρ S = .ok (.int m) S := by unfold fV; rw [z2']
        cases b1 with
        | false => simp -implicitDefEqProofs [v0, v2, isi, q2]
        | true =>
          have : b2 = false := by simpa using e3
          subst this
          simp -implicitDefEqProofs [v0, v2, isi, q2, ish, q3]
      have ch := chainF [ee (.ref o), ee (.str code), ee (.int m), ee (.str right), none, none] rfl rfl
      have gl : gLen [] S = gLen [] S := rfl
      have st3 : sPutC (fV 0) (fC (.str "last")) (fV 2) [ee (.ref o), ee (.str code), ee (.int m), ee (.str right), none, none] S = .next [ee (.ref o), ee (.str code), ee (.int m), ee (.str right), none, none] (S.set o (.dic (ocL r { c with last := m }))) := by
        simp -implicitDefEqProofs [sPutC, da, keyD, oc_len, z7, w_last]
      refine mOf_ret ?_
      show g_law_asks [ee (.ref o), ee (.str code), ee (.int m), ee (.str right), none, none] S = _
      unfold g_law_asks
      rw [seq_next (ρ1 := [ee (.ref o), ee (.str code), ee (.int m), ee (.str right), none, none]) (S1 := S) (by simp -implicitDefEqProofs [il, q1])]
      rw [seq_next (ρ1 := [ee (.ref o), ee (.str code), ee (.int m), ee (.str right), none, none]) (S1 := S) (by rw [e_sIf, ch]; rfl)]
      rw [seq_next st3]
      rw [seq_next (ρ1 := [ee (.ref o), ee (.str code), ee (.int m), ee (.str right), ee (.lst ((c.rows.filter fun q => q.c == code).map fun q => .str q.n)), none]) (S1 := S.set o (.dic (ocL r { c with last := m }))) (by rw [e_sSet, nm]; rfl)]
      cases hw : (c.rows.filter fun q => q.c == code) with
      | nil =>
        have q4 : ∀ S, gEq false (.lst []) (.lst []) S = some (.bl true) := fun S => rfl
        have qi : ∀ S, gEq false (.int (c.misses + 1)) (.int c.tries) S = some (.bl (decide (c.misses + 1 = c.tries))) := fun S => by
          rw [eq_ok S false (by simp) (by simp), deq_intD, Bool.false_xor]
        simp only [List.head?_nil, toldD, en3, wrongF]
        by_cases h3 : c.tries ≤ c.misses + 1
        · have he : c.misses + 1 = c.tries := by omega
          simp only [if_pos h3]
          simp only [decide_eq_true he] at qi
          simp -implicitDefEqProofs [q4, z2, z3, z7, sPutC, at', ix', v_misses, v_tries, v_rest, oc_len, keyD, w_misses, qi, sAsgS, tgSub, tgsCons, tgsNil, w_since, w_shut]
        · have he : ¬ c.misses + 1 = c.tries := by omega
          simp only [if_neg h3]
          simp only [decide_eq_false he] at qi
          simp -implicitDefEqProofs [q4, z2, z3, z7, sPutC, at', ix', v_misses, v_tries, v_rest, oc_len, keyD, w_misses, qi]
      | cons x l =>
        have hx : x ∈ c.rows := by
          have : x ∈ (c.rows.filter fun q => q.c == code) := by rw [hw]; exact List.mem_cons_self
          exact (List.mem_filter.mp this).1
        rw [hw] at okl
        have q4 : ∀ S, gEq false (.lst ((x :: l).map fun q => D.str q.n)) (.lst []) S = some (.bl false) := fun S => by
          rw [eq_ok S false okl rfl]; rfl
        have j0 : ∀ S, gIx (.lst ((x :: l).map fun q => D.str q.n)) (.int 0) S = some (.str x.n) := fun S => by rw [ix_lst _ _ (by decide)]; rfl
        have hv := val_row ok.nd hx
        have j1 : ∀ S, gIx (rwD x) (.int 1) S = some (.tup (x.rs.map .str)) := fun S => rfl
        have qr := fun S => in_strs S false right x.rs hright (ok.ok x hx).rs
        simp only [List.head?_cons]
        generalize (x :: l).map (fun q => D.str q.n) = L at *
        cases hb : x.rs.any (· == right) with
        | true =>
          simp only [hb, Bool.false_xor] at qr
          simp only [if_true, toldD]
          simp -implicitDefEqProofs [q4, z2, z7, sPutC, at', ix', ixr, v_rows, oc_len, keyD, w_misses, j0, hv, j1, qr]
        | false =>
          simp only [hb, Bool.false_xor] at qr
          simp only [Bool.false_eq_true, if_false, toldD, en4]
          simp -implicitDefEqProofs [q4, z2, z7, sPutC, at', ix', ixr, v_rows, oc_len, keyD, w_misses, j0, hv, j1, qr]
end BW
namespace BW
open PySem L2
theorem in_ints (S : Store) (neg : Bool) (x : Int) (l : List Int) : gIn neg (.int x) (mD l) S = some (.bl (xor neg (decide (x ∈ l)))) := by
  have : (l.map D.int).any (fun z => deq z (.int x)) = decide (x ∈ l) := by
    rw [Bool.eq_iff_iff, List.any_eq_true, decide_eq_true_eq]
    constructor
    · rintro ⟨d, hd, e⟩
      obtain ⟨y, hy, rfl⟩ := List.mem_map.mp hd
      simp at e
      exact e ▸ hy
    · exact fun h => ⟨_, List.mem_map_of_mem h, by simp⟩
  simp only [mD, gIn, ok_int, ok_tupC, ok_all (e := D.int) (fun i => ok_int _ i), Bool.and_self, if_true, this]
end BW
namespace BW
open PySem L2
def Gets (o : Out) (v : D) : Prop := ∃ S8, o = .ret v S8
theorem seqK {f g : Stm} {ρ : Env} {S : Store} {v : D} (h : ∀ k : Stm, k = g → Gets (match f ρ S with | .next ρ1 S1 => k ρ1 S1 | o => o) v) : Gets (sSeq f g ρ S) v := h g rfl
@[simp] theorem gets_reti {v u : D} {S : Store} : Gets (.ret u S) v ↔ u = v := ⟨fun ⟨_, e⟩ => by cases e; rfl, fun e => ⟨S, by rw [e]⟩⟩
theorem law_gets {n : Nat} {g : Stm} {ds : List D} {S : Store} {v : D} (h : Gets (g (startE n ds) S) v) : ∃ S', mOf n g ds S = .ok v S' := by
  obtain ⟨S8, e⟩ := h
  exact ⟨S8, mOf_ret e⟩
/-- a loop, by what is done -/
theorem forDn {α : Type} {e : α → D} {t : Tgt} {g : Stm} (I : List α → Env → Store → Prop) : ∀ (xs done : List α) (ρ : Env) (S : Store), I done ρ S →
    (∀ d x r ρ S, done ++ xs = d ++ x :: r → I d ρ S → ∃ ρ1 ρ2 S2, t (e x) ρ = some ρ1 ∧ g ρ1 S = .next ρ2 S2 ∧ I (d ++ [x]) ρ2 S2) → ∃ ρ' S', forL t g (xs.map e) ρ S = .next ρ' S' ∧ I (done ++ xs) ρ' S'
  | [], done, ρ, S, h, _ => ⟨ρ, S, rfl, by simpa using h⟩
  | x :: xs, done, ρ, S, h, hs => by
    obtain ⟨ρ1, ρ2, S2, e1, e2, h2⟩ := hs done x xs ρ S rfl h
    obtain ⟨ρ', S', e3, h3⟩ := forDn I xs (done ++ [x]) ρ2 S2 h2 fun d y r ρ S hd => hs d y r ρ S (by rw [← hd]; simp)
    exact ⟨ρ', S', by rw [List.map_cons]; simp only [forL, e1, e2, e3], by simpa using h3⟩
theorem mid_mem {α : Type} {xs d r : List α} {x : α} (h : [] ++ xs = d ++ x :: r) : x ∈ xs ∧ d.length < xs.length := by
  rw [List.nil_append] at h
  rw [h]
  simp
@[simp] theorem lm0 : (0 ≤ LIM) = True := eq_true (lim_small (by decide))
@[simp] theorem lm1 : (1 ≤ LIM) = True := eq_true (lim_small (by decide))
@[simp] theorem lm2 : (2 ≤ LIM) = True := eq_true (lim_small (by decide))
@[simp] theorem lm3 : (3 ≤ LIM) = True := eq_true (lim_small (by decide))
@[simp] theorem lm4 : (4 ≤ LIM) = True := eq_true (lim_small (by decide))
@[simp] theorem lm5 : (5 ≤ LIM) = True := eq_true (lim_small (by decide))
@[simp] theorem lm6 : (6 ≤ LIM) = True := eq_true (lim_small (by decide))
@[simp] theorem lm7 : (7 ≤ LIM) = True := eq_true (lim_small (by decide))
@[simp] theorem lm8 : (8 ≤ LIM) = True := eq_true (lim_small (by decide))
@[simp] theorem lm9 : (9 ≤ LIM) = True := eq_true (lim_small (by decide))
@[simp] theorem lm10 : (10 ≤ LIM) = True := eq_true (lim_small (by decide))
@[simp] theorem lm11 : (11 ≤ LIM) = True := eq_true (lim_small (by decide))
@[simp] theorem lm12 : (12 ≤ LIM) = True := eq_true (lim_small (by decide))
@[simp] theorem lm13 : (13 ≤ LIM) = True := eq_true (lim_small (by decide))
end BW
namespace BW
open PySem L2
abbrev dd (x : D) : Option Slot := some (.dat x)
theorem inXS (c : Str) (h : (XS.any (· == c)) = true) : c ∈ XS := by
  obtain ⟨x, h1, h2⟩ := List.any_eq_true.mp h
  rw [beq_iff_eq] at h2
  exact h2 ▸ h1
theorem tx0 (S : Store) (a : D) (l : List D) : gIx (.tup (a :: l)) (.int 0) S = some a := by rw [ix_tup S _ (by decide)]; rfl
theorem tx1 (S : Store) (a b : D) (l : List D) : gIx (.tup (a :: b :: l)) (.int 1) S = some b := by rw [ix_tup S _ (by decide)]; rfl
theorem tx2 (S : Store) (a b c : D) (l : List D) : gIx (.tup (a :: b :: c :: l)) (.int 2) S = some c := by rw [ix_tup S _ (by decide)]; rfl
theorem tx3 (S : Store) (a b c d : D) (l : List D) : gIx (.tup (a :: b :: c :: d :: l)) (.int 3) S = some d := by rw [ix_tup S _ (by decide)]; rfl
theorem ix_pickD (l : List D) {d : Int} (h : 0 ≤ d ∧ d < (l.length : Int)) : ∃ x ∈ l, ∀ S, gIx (.lst l) (.int d) S = some x := by
  have hl : d.toNat < l.length := by omega
  exact ⟨l[d.toNat], List.getElem_mem hl, fun S => by rw [ix_lst S _ h.1]; simp [hl]⟩
theorem ev_law_word : ∀ a c S, c ∈ XS → mOfE 2 a (g_law_word a c) S = m_law_word c S := by
  intro a c S _
  unfold m_law_word
  simp -implicitDefEqProofs [mOfE, g_law_word, startX, lim_small, gAdd]
  generalize gCountT _ _ S = r1
  cases r1 with
  | none => rfl
  | some d =>
    simp -implicitDefEqProofs
    generalize gEq true d (.int 1) S = r3
    cases r3 with
    | none => rfl
    | some e =>
      cases e <;> try rfl
      rename_i b
      cases b with
      | true => rfl
      | false =>
        simp -implicitDefEqProofs
        generalize gIndexT _ _ S = r2
        cases r2 <;> simp -implicitDefEqProofs [lim_small]
def NmF (d : D) (b : Bool) : Prop := (∀ S, m_is_name [d] S = .ok (.bl b) S) ∧ (∀ S, gIn true d (.tup [.str "ann", .str "b", .str "zzzzzz", .str "cy"]) S = some (.bl (!b))) ∧ (b = true → ∃ n, d = .str n ∧ PyData.strOk n = true)
def CdF (d : D) (b : Bool) : Prop := (∀ S, m_is_code [d] S = .ok (.bl b) S) ∧ (∀ S, gIn true d (.tup [.str "0000", .str "1234", .str "00000", .str "999999"]) S = some (.bl (!b))) ∧ (b = true → ∃ n, d = .str n ∧ PyData.strOk n = true)
def RtF (d : D) (b : Bool) : Prop := (∀ S, m_are_rights [d] S = .ok (.bl b) S) ∧ (∀ S, gIn true d (.tup [.tup [], .tup [.str "lift"], .tup [.str "set"], .tup [.str "lift", .str "set"]]) S = some (.bl (!b))) ∧ (b = true → ∃ rs : List Str, d = .tup (rs.map .str) ∧ rs.all PyData.strOk = true)
def nmL : List D := [.str "ann", .str "b", .str "zzzzzz", .str "cy"]
def nmB : List D := [.str "", .str "A", .str "abcdefg", .non, .int 5, .str "a b", .tup [.str "ann"]]
def cdL : List D := [.str "0000", .str "1234", .str "00000", .str "999999"]
def cdB : List D := [.str "123", .str "1234567", .str "12a4", .int 1234, .non, .str "", .str " 123"]
def rtL : List D := [.tup [], .tup [.str "lift"], .tup [.str "set"], .tup [.str "lift", .str "set"]]
def rtB : List D := [.tup [.str "set", .str "lift"], .lst [.str "lift"], .non, .tup [.str "lift", .str "lift"], .tup [.str "go"], .str "lift"]
theorem nm_good : ∀ d ∈ nmL, NmF d true := by
  intro d hd
  simp only [nmL, List.mem_cons, List.not_mem_nil, or_false] at hd
  rcases hd with rfl | rfl | rfl | rfl <;> exact ⟨fun S => by kernel_rfl, fun S => by kernel_rfl, fun _ => ⟨_, rfl, ofS_ok _⟩⟩
theorem nm_bad : ∀ d ∈ nmB, NmF d false := by
  intro d hd
  simp only [nmB, List.mem_cons, List.not_mem_nil, or_false] at hd
  rcases hd with rfl | rfl | rfl | rfl | rfl | rfl | rfl <;> exact ⟨fun S => by kernel_rfl, fun S => by kernel_rfl, fun z => by cases z⟩
theorem cd_good : ∀ d ∈ cdL, CdF d true := by
  intro d hd
  simp only [cdL, List.mem_cons, List.not_mem_nil, or_false] at hd
  rcases hd with rfl | rfl | rfl | rfl <;> exact ⟨fun S => by kernel_rfl, fun S => by kernel_rfl, fun _ => ⟨_, rfl, ofS_ok _⟩⟩
theorem cd_bad : ∀ d ∈ cdB, CdF d false := by
  intro d hd
  simp only [cdB, List.mem_cons, List.not_mem_nil, or_false] at hd
  rcases hd with rfl | rfl | rfl | rfl | rfl | rfl | rfl <;> exact ⟨fun S => by kernel_rfl, fun S => by kernel_rfl, fun z => by cases z⟩
theorem rt_good : ∀ d ∈ rtL, RtF d true := by
  intro d hd
  simp only [rtL, List.mem_cons, List.not_mem_nil, or_false] at hd
  rcases hd with rfl | rfl | rfl | rfl
  · exact ⟨fun S => by kernel_rfl, fun S => by kernel_rfl, fun _ => ⟨[], rfl, rfl⟩⟩
  · exact ⟨fun S => by kernel_rfl, fun S => by kernel_rfl, fun _ => ⟨["lift"], rfl, by simp⟩⟩
  · exact ⟨fun S => by kernel_rfl, fun S => by kernel_rfl, fun _ => ⟨["set"], rfl, by simp⟩⟩
  · exact ⟨fun S => by kernel_rfl, fun S => by kernel_rfl, fun _ => ⟨["lift", "set"], rfl, by simp⟩⟩
theorem rt_bad : ∀ d ∈ rtB, RtF d false := by
  intro d hd
  simp only [rtB, List.mem_cons, List.not_mem_nil, or_false] at hd
  rcases hd with rfl | rfl | rfl | rfl | rfl | rfl <;> exact ⟨fun S => by kernel_rfl, fun S => by kernel_rfl, fun z => by cases z⟩
inductive S4 where
  | give (n c r : D)
  | take (n : Str)
  | ask (code : Str) (m : Int) (right : Str)
def s4D : S4 → D
  | .give n c r => .tup [.str "give", n, c, r]
  | .take n => .tup [.str "take", .str n]
  | .ask code m right => .tup [.str "ask", .str code, .int m, .str right]
def S4.Good : S4 → Prop
  | .give n c r => (∃ b, NmF n b) ∧ (∃ b, CdF c b) ∧ (∃ b, RtF r b)
  | .take n => PyData.strOk n = true
  | .ask code _ right => PyData.strOk code = true ∧ PyData.strOk right = true
def S40 (c : Co) : Store := [coC c, .dic (c.rows.map rwK), .dic (ocL 1 c)]
theorem o40 (c : Co) : OAt (S40 c) 2 1 c := ⟨rfl, rfl, by decide⟩
theorem wish_ev (ns : List Int) (hn : ns.length ≤ 63) (k : Int) (c : Co) : ∃ t : S4, t.Good ∧ m_law_wish [.scr ns, .int k, .ref 2] (S40 c) = .ok (s4D t) (S40 c) := by
  have il := ix_dic (o40 c).co "last"
  rw [v_last] at il
  generalize S40 c = S at *
  have e1 := drawn_ev ns hn k 4 (by decide) S
  have e2 := drawn_ev ns hn (k + 1) 4 (by decide) S
  have e3 := drawn_ev ns hn (k + 2) 7 (by decide) S
  have e4 := drawn_ev ns hn (k + 3) 4 (by decide) S
  have e5 := drawn_ev ns hn (k + 4) 12 (by decide) S
  have e6 := drawn_ev ns hn (k + 5) 7 (by decide) S
  have e7 := drawn_ev ns hn (k + 6) 6 (by decide) S
  have e8 := drawn_ev ns hn (k + 4) 15 (by decide) S
  have e9 := drawn_ev ns hn (k + 5) 3 (by decide) S
  have e10 := drawn_ev ns hn (k + 6) 2 (by decide) S
  obtain ⟨x1, m1, i1⟩ := ix_pickD nmL (drawn_lt ns k (many := 4) (by decide))
  obtain ⟨x2, m2, i2⟩ := ix_pickD cdL (drawn_lt ns (k + 1) (many := 4) (by decide))
  obtain ⟨x3, m3, i3⟩ := ix_pickD [.str "give", .str "ask", .str "ask", .str "ask", .str "take", .str "give", .str "ask"] (drawn_lt ns (k + 2) (many := 7) (by decide))
  obtain ⟨x4, m4, i4⟩ := ix_pickD rtL (drawn_lt ns (k + 3) (many := 4) (by decide))
  obtain ⟨x6, m6, i6⟩ := ix_pickD nmB (drawn_lt ns (k + 5) (many := 7) (by decide))
  obtain ⟨x7, m7, i7⟩ := ix_pickD cdB (drawn_lt ns (k + 5) (many := 7) (by decide))
  obtain ⟨x8, m8, i8⟩ := ix_pickD rtB (drawn_lt ns (k + 6) (many := 6) (by decide))
  obtain ⟨x9, m9, i9⟩ := ix_pickD [.int 0, .int 1, .int 3, .int 20] (drawn_lt ns (k + 3) (many := 4) (by decide))
  obtain ⟨xa, ma, ia⟩ := ix_pickD [x2, .str "4321", .str "8888"] (drawn_lt ns (k + 5) (many := 3) (by decide))
  obtain ⟨xb, mb, ib⟩ := ix_pickD [.str "lift", .str "set"] (drawn_lt ns (k + 6) (many := 2) (by decide))
  have z7 : (7 : Nat) ≤ LIM := lim_small (by decide)
  have z6 : (6 : Nat) ≤ LIM := lim_small (by decide)
  have z4 : (4 : Nat) ≤ LIM := lim_small (by decide)
  have z3 : (3 : Nat) ≤ LIM := lim_small (by decide)
  have z2 : (2 : Nat) ≤ LIM := lim_small (by decide)
  have z1 : (1 : Nat) ≤ LIM := lim_small (by decide)
  have F1 := nm_good x1 m1
  have F2 := cd_good x2 m2
  have F4 := rt_good x4 m4
  have F6 := nm_bad x6 m6
  have F7 := cd_bad x7 m7
  have F8 := rt_bad x8 m8
  unfold nmL at i1
  unfold cdL at i2
  unfold rtL at i4
  unfold nmB at i6
  unfold cdB at i7
  unfold rtB at i8
  have cases3 : x3 = .str "give" ∨ x3 = .str "ask" ∨ x3 = .str "take" := by
    simp only [List.mem_cons, List.not_mem_nil, or_false] at m3
    rcases m3 with h | h | h | h | h | h | h <;> simp [h]
  have q1 : gEq false (.str "give") (.str "give") S = some (.bl true) := by kernel_rfl
  have q2 : gEq false (.str "take") (.str "give") S = some (.bl false) := by kernel_rfl
  have q3 : gEq false (.str "take") (.str "take") S = some (.bl true) := by kernel_rfl
  have q4 : gEq false (.str "ask") (.str "give") S = some (.bl false) := by kernel_rfl
  have q5 : gEq false (.str "ask") (.str "take") S = some (.bl false) := by kernel_rfl
  generalize hsp : drawnF ns (k + 4) 12 = sp at *
  have n1 := in_ints S false sp [0, 3]
  have n2 := in_ints S false sp [1, 3]
  have n3 := in_ints S false sp [2, 3]
  have n1 : gIn false (.int sp) (.tup [.int 0, .int 3]) S = _ := n1
  have n2 : gIn false (.int sp) (.tup [.int 1, .int 3]) S = _ := n2
  have n3 : gIn false (.int sp) (.tup [.int 2, .int 3]) S = _ := n3
  clear m1 m2 m3 m4 m6 m7 m8
  rcases cases3 with rfl | rfl | rfl
  · generalize decide (sp ∈ [0, 3]) = b1 at *
    generalize decide (sp ∈ [1, 3]) = b2 at *
    generalize decide (sp ∈ [2, 3]) = b3 at *
    refine ⟨.give (if b1 then x6 else x1) (if b2 then x7 else x2) (if b3 then x8 else x4), ⟨⟨!b1, by cases b1 <;> first | exact F1 | exact F6⟩, ⟨!b2, by cases b2 <;> first | exact F2 | exact F7⟩, ⟨!b3, by cases b3 <;> first | exact F4 | exact F8⟩⟩, ?_⟩
    cases b1 <;> cases b2 <;> cases b3 <;> simp -implicitDefEqProofs [m_law_wish, g_law_wish, e1, e2, e3, e4, e5, e6, e7, i1, i2, i3, i4, i6, i7, i8, q1, n1, n2, n3, s4D, z7, z6, z4, z2, z1]
  · have n9 : ∃ i : Int, x9 = .int i := by
      simp only [List.mem_cons, List.not_mem_nil, or_false] at m9
      rcases m9 with rfl | rfl | rfl | rfl <;> exact ⟨_, rfl⟩
    obtain ⟨w9, rfl⟩ := n9
    have na : ∃ n, xa = .str n ∧ PyData.strOk n = true := by
      obtain ⟨n, hn1, hn2⟩ := F2.2.2 rfl
      simp only [List.mem_cons, List.not_mem_nil, or_false] at ma
      rcases ma with rfl | rfl | rfl
      · exact ⟨n, hn1, hn2⟩
      · exact ⟨_, rfl, ofS_ok _⟩
      · exact ⟨_, rfl, ofS_ok _⟩
    obtain ⟨na, rfl, ha⟩ := na
    have nb : ∃ n, xb = .str n ∧ PyData.strOk n = true := by
      simp only [List.mem_cons, List.not_mem_nil, or_false] at mb
      rcases mb with rfl | rfl <;> exact ⟨_, rfl, ofS_ok _⟩
    obtain ⟨nb, rfl, hb⟩ := nb
    have qe : gEq false (.int (drawnF ns (k + 4) 15)) (.int 0) S = some (.bl (decide (drawnF ns (k + 4) 15 = 0))) := by
      rw [eq_ok S false (by simp) (by simp), deq_intD, Bool.false_xor]
    have gi : ∀ b : Bool, gInt [.bl b] S = some (.int (if b = true then 1 else 0)) := fun b => by cases b <;> rfl
    have m2' := fun j => mul_ok S (i := 2) (j := j) (.inl (by decide))
    have mx : ∀ a : Int, gMax [.int 0, .int a] S = some (.int (hi2 0 a)) := fun a => rfl
    generalize decide (drawnF ns (k + 4) 15 = 0) = bb at *
    generalize drawnF ns (k + 4) 15 = dq at *
    refine ⟨.ask na (hi2 0 (c.last + w9 - 2 * (if bb = true then 1 else 0))) nb, ⟨ha, hb⟩, ?_⟩
    have sb : ∀ a b : Int, gSub (.int a) (.int b) S = some (.int (a - b)) := fun _ _ => rfl
    cases bb <;> simp -implicitDefEqProofs [m_law_wish, g_law_wish, e1, e2, e3, i1, i2, i3, q4, q5, il, e4, i9, e8, qe, gi, m2', sb, e9, ia, e10, ib, mx, s4D, z7, z6, z4, z3, z2]
  · obtain ⟨n, hn1, hn2⟩ := F1.2.2 rfl
    subst hn1
    refine ⟨.take n, hn2, ?_⟩
    simp -implicitDefEqProofs [m_law_wish, g_law_wish, e1, e2, e3, i1, i2, i3, q2, q3, s4D, z7, z4, z2]
end BW
namespace BW
open PySem L2
theorem wd_all (S : Store) : m_law_word "NoName" S = .ok (.tup [.str "refused", .int 0]) S ∧ m_law_word "NoCode" S = .ok (.tup [.str "refused", .int 1]) S ∧ m_law_word "NoRight" S = .ok (.tup [.str "refused", .int 2]) S ∧ m_law_word "Taken" S = .ok (.tup [.str "refused", .int 3]) S ∧ m_law_word "NoTime" S = .ok (.tup [.str "refused", .int 4]) S ∧ m_law_word "Locked" S = .ok (.tup [.str "refused", .int 5]) S ∧ m_law_word "Wrong" S = .ok (.tup [.str "refused", .int 6]) S :=
  ⟨by kernel_rfl, by kernel_rfl, by kernel_rfl, by kernel_rfl, by kernel_rfl, by kernel_rfl, by kernel_rfl⟩
def Tm (d : D) : Prop := okD 12 d = true ∧ deq d d = true
theorem Tm.eq {d : D} (h : Tm d) (S : Store) (neg : Bool) : gEq neg d d S = some (.bl (xor neg true)) := by
  rw [eq_ok S neg h.1 h.1, h.2]
theorem tm_ref (k : Int) : Tm (.tup [.str "refused", .int k]) := ⟨by simp, by simp⟩
theorem deqs_strs : ∀ l : List Str, deqs (l.map D.str) (l.map D.str) = true
  | [] => rfl
  | x :: l => by simp [deqs_strs l]
theorem tm_row {r : Rwc} (h : r.Ok) : Tm (rwD r) := by
  have h3 := h.rs
  refine ⟨?_, by simp [rwD, deqs_strs]⟩
  simp [rwD, h.c]
  simpa using h3
theorem told_give {S : Store} {n c r : D} {g : Co} (h : S[0]? = some (coC g)) {d : D} {S' : Store} (e : (m_Codes_give [.ref 0, n, c, r] S = .ok d S') ∨ (∃ x k, x ∈ XS ∧ m_law_word x S' = .ok (.tup [.str "refused", .int k]) S' ∧ d = .tup [.str "refused", .int k] ∧ m_Codes_give [.ref 0, n, c, r] S = .err x S')) : m_law_told [.ref 0, s4D (.give n c r)] S = .ok d S' := by
  have ac := at_c h
  have q1 : gEq false (.str "give") (.str "give") S = some (.bl true) := by kernel_rfl
  rcases e with e | ⟨x, k, hx, wd, rfl, e⟩
  · simp -implicitDefEqProofs [m_law_told, g_law_told, b_law_told_1, s4D, tx0, tx1, tx2, tx3, q1, ac, e]
  · simp -implicitDefEqProofs [m_law_told, g_law_told, b_law_told_1, s4D, tx0, tx1, tx2, tx3, q1, ac, e, hx, wd]
theorem told_take {S : Store} {n : Str} {g : Co} (h : S[0]? = some (coC g)) {d : D} {S' : Store} (e : (m_Codes_take [.ref 0, .str n] S = .ok d S') ∨ (∃ x k, x ∈ XS ∧ m_law_word x S' = .ok (.tup [.str "refused", .int k]) S' ∧ d = .tup [.str "refused", .int k] ∧ m_Codes_take [.ref 0, .str n] S = .err x S')) : m_law_told [.ref 0, s4D (.take n)] S = .ok d S' := by
  have ac := at_c h
  have q1 : gEq false (.str "take") (.str "give") S = some (.bl false) := by kernel_rfl
  have q2 : gEq false (.str "take") (.str "take") S = some (.bl true) := by kernel_rfl
  rcases e with e | ⟨x, k, hx, wd, rfl, e⟩
  · simp -implicitDefEqProofs [m_law_told, g_law_told, b_law_told_1, s4D, tx0, tx1, q1, q2, ac, e]
  · simp -implicitDefEqProofs [m_law_told, g_law_told, b_law_told_1, s4D, tx0, tx1, q1, q2, ac, e, hx, wd]
theorem told_ask {S : Store} {code right : Str} {m : Int} {g : Co} (h : S[0]? = some (coC g)) {d : D} {S' : Store} (e : (m_Codes_ask [.ref 0, .str code, .int m, .str right] S = .ok d S') ∨ (∃ x k, x ∈ XS ∧ m_law_word x S' = .ok (.tup [.str "refused", .int k]) S' ∧ d = .tup [.str "refused", .int k] ∧ m_Codes_ask [.ref 0, .str code, .int m, .str right] S = .err x S')) : m_law_told [.ref 0, s4D (.ask code m right)] S = .ok d S' := by
  have ac := at_c h
  have q1 : gEq false (.str "ask") (.str "give") S = some (.bl false) := by kernel_rfl
  have q2 : gEq false (.str "ask") (.str "take") S = some (.bl false) := by kernel_rfl
  rcases e with e | ⟨x, k, hx, wd, rfl, e⟩
  · simp -implicitDefEqProofs [m_law_told, g_law_told, b_law_told_1, s4D, tx0, tx1, tx2, tx3, q1, q2, ac, e]
  · simp -implicitDefEqProofs [m_law_told, g_law_told, b_law_told_1, s4D, tx0, tx1, tx2, tx3, q1, q2, ac, e, hx, wd]
/-- the state: as many right as may be -/
structure C4 (c : Co) : Prop where
  ok : c.Ok
  ms : c.misses < c.tries
  tr : 1 ≤ c.tries
theorem val_is {rows : List Rwc} (nd : (rows.map (·.n)).Nodup) (n : Str) : (valD (rows.map rwK) (.inr n)).isSome = decide (n ∈ rows.map (·.n)) := by
  by_cases h : n ∈ rows.map (·.n)
  · obtain ⟨r, hr, e⟩ := List.mem_map.mp h
    rw [← e, val_row nd hr, decide_eq_true (List.mem_map_of_mem (f := fun r : Rwc => r.n) hr)]
    rfl
  · rw [val_none h, decide_eq_false h]; rfl
theorem drop_is (rows : List Rwc) (n : Str) : dropD (rows.map rwK) (.inr n) = (rows.filter fun q => !(q.n == n)).map rwK := by
  unfold dropD
  rw [List.filter_map]
  congr 1
  refine List.filter_congr fun q _ => ?_
  simp only [Function.comp, rwK]
  rw [Bool.eq_iff_iff]
  simp
end BW
namespace BW
open PySem L2
theorem ask_ms {c : Co} (h1 : c.misses < c.tries) (h2 : 1 ≤ c.tries) (code right : Str) (m : Int) : (askF c code m right).2.misses < (askF c code m right).2.tries ∧ 1 ≤ (askF c code m right).2.tries := by
  unfold askF
  split
  · exact ⟨h1, h2⟩
  · split
    · exact ⟨h1, h2⟩
    · split
      · unfold wrongF
        split
        · exact ⟨by show (0 : Int) < c.tries; omega, h2⟩
        · rename_i z
          exact ⟨by show c.misses + 1 < c.tries; omega, h2⟩
      · split
        · exact ⟨by show (0 : Int) < c.tries; omega, h2⟩
        · exact ⟨by show (0 : Int) < c.tries; omega, h2⟩
theorem ask_rows (c : Co) (code right : Str) (m : Int) : (askF c code m right).2.rows = c.rows := by
  unfold askF; split
  · rfl
  · split
    · rfl
    · split
      · unfold wrongF; split <;> rfl
      · split <;> rfl
theorem ask_tm {c : Co} (ok : c.Ok) (code right : Str) (m : Int) : Tm (toldD (askF c code m right).1) ∧ ∀ x, (askF c code m right).1 = .error x → x ∈ XS ∧ ∀ S, m_law_word x S = .ok (.tup [.str "refused", .int (eNo x)]) S := by
  have e : ∀ x ∈ (["NoTime", "Locked", "Wrong", "NoRight"] : List Str), x ∈ XS ∧ ∀ S, m_law_word x S = .ok (.tup [.str "refused", .int (eNo x)]) S := by
    intro x hx
    simp only [List.mem_cons, List.not_mem_nil, or_false] at hx
    rcases hx with rfl | rfl | rfl | rfl
    · exact ⟨inXS _ (by decide +kernel), fun S => by rw [en1]; exact (wd_all S).2.2.2.2.1⟩
    · exact ⟨inXS _ (by decide +kernel), fun S => by rw [en2]; exact (wd_all S).2.2.2.2.2.1⟩
    · exact ⟨inXS _ (by decide +kernel), fun S => by rw [en3]; exact (wd_all S).2.2.2.2.2.2⟩
    · exact ⟨inXS _ (by decide +kernel), fun S => by rw [en4]; exact (wd_all S).2.2.1⟩
  unfold askF
  split
  · exact ⟨tm_ref _, fun x h => by cases h; exact e _ (by simp)⟩
  · split
    · exact ⟨tm_ref _, fun x h => by cases h; exact e _ (by simp)⟩
    · split
      · exact ⟨tm_ref _, fun x h => by cases h; exact e _ (by simp)⟩
      · rename_i r hr
        split
        · refine ⟨?_, fun x h => by cases h⟩
          have := (ok.ok r (who_mem hr).1).n
          exact ⟨by simpa [toldD] using this, by simp [toldD]⟩
        · exact ⟨tm_ref _, fun x h => by cases h; exact e _ (by simp)⟩
theorem step_ask {c : Co} (C : C4 c) {code right : Str} (m : Int) (h1 : PyData.strOk code = true) (h2 : PyData.strOk right = true) :
    ∃ d S1 c', m_law_told [.ref 0, s4D (.ask code m right)] (S40 c) = .ok d S1 ∧ m_law_answer [.ref 2, s4D (.ask code m right)] S1 = .ok d (S40 c') ∧ C4 c' ∧ Tm d ∧ c'.rows.length ≤ c.rows.length + 1 := by
  have av := ask_ev (S := S40 c) (p := 0) rfl C.ok m h1 h2
  have ms := ask_ms C.ms C.tr code right m
  have rw' := ask_rows c code right m
  have ok' := ask_ok C.ok code right m
  obtain ⟨tm, er⟩ := ask_tm C.ok code right m
  have O1 : OAt ((S40 c).set 0 (coC (askF c code m right).2)) 2 1 c := ⟨rfl, rfl, by decide⟩
  have aw := asks_ev O1 C.ok m h1 h2 C.ms
  have fin : ((S40 c).set 0 (coC (askF c code m right).2)).set 2 (.dic (ocL 1 (askF c code m right).2)) = S40 (askF c code m right).2 := by
    unfold S40
    rw [rw']; rfl
  rw [fin] at aw
  refine ⟨toldD (askF c code m right).1, (S40 c).set 0 (coC (askF c code m right).2), (askF c code m right).2, ?_, ?_, ⟨ok', ms.1, ms.2⟩, tm, by rw [rw']; omega⟩
  · cases hr : (askF c code m right).1 with
    | ok d =>
      unfold resC at av
      rw [hr] at av
      exact told_ask (g := c) rfl (.inl av)
    | error x =>
      unfold resC at av
      rw [hr] at av
      exact told_ask (g := c) rfl (.inr ⟨x, eNo x, (er x hr).1, (er x hr).2 _, rfl, av⟩)
  · have q1 : gEq false (.str "ask") (.str "ask") ((S40 c).set 0 (coC (askF c code m right).2)) = some (.bl true) := by kernel_rfl
    generalize toldD (askF c code m right).1 = td at *
    generalize (S40 c).set 0 (coC (askF c code m right).2) = S1 at *
    generalize S40 (askF c code m right).2 = S2 at *
    simp -implicitDefEqProofs [m_law_answer, g_law_answer, s4D, tx0, tx1, tx2, tx3, q1, aw]
theorem step_take {c : Co} (C : C4 c) {n : Str} (hn : PyData.strOk n = true) :
    ∃ d S1 c', m_law_told [.ref 0, s4D (.take n)] (S40 c) = .ok d S1 ∧ m_law_answer [.ref 2, s4D (.take n)] S1 = .ok d (S40 c') ∧ C4 c' ∧ Tm d ∧ c'.rows.length ≤ c.rows.length + 1 := by
  have tv := take_ev (S := S40 c) (p := 0) rfl C.ok hn
  have ok' := take_ok C.ok n
  have q1 : ∀ S, gEq false (.str "take") (.str "ask") S = some (.bl false) := fun S => by kernel_rfl
  have q2 : ∀ S, gEq false (.str "take") (.str "take") S = some (.bl true) := fun S => by kernel_rfl
  have z2 : (2 : Nat) ≤ LIM := lim_small (by decide)
  unfold takeF at tv ok'
  cases hf : c.rows.find? (fun r => r.n == n) with
  | none =>
    rw [hf] at tv ok'
    simp only [resC] at tv
    have tv : m_Codes_take [.ref 0, .str n] (S40 c) = .err "NoName" (S40 c) := tv
    have O1 := o40 c
    have ir := ix_dic O1.co "rows"
    rw [v_rows] at ir
    have vn := val_none (find_no hf)
    have d1 := dic_at O1.cr
    refine ⟨.tup [.str "refused", .int 0], S40 c, c, told_take (g := c) rfl (.inr ⟨"NoName", 0, inXS _ (by decide +kernel), (wd_all _).1, rfl, tv⟩), ?_, C, tm_ref 0, by omega⟩
    generalize S40 c = S1 at *
    generalize c.rows.map rwK = L at *
    simp -implicitDefEqProofs [m_law_answer, g_law_answer, s4D, tx0, tx1, q1, q2, ir, fPopC, d1, keyD, vn, z2]
  | some r =>
    rw [hf] at tv ok'
    simp only [resC] at tv
    obtain ⟨hr, e⟩ := find_n hf
    have vr := val_row C.ok.nd hr
    rw [e] at vr
    have O1 : OAt ((S40 c).set 0 (coC { c with rows := c.rows.filter fun q => !(q.n == n) })) 2 1 c := ⟨rfl, rfl, by decide⟩
    have ir := ix_dic O1.co "rows"
    rw [v_rows] at ir
    have d1 := dic_at O1.cr
    have dr := drop_is c.rows n
    refine ⟨rwD r, (S40 c).set 0 (coC { c with rows := c.rows.filter fun q => !(q.n == n) }), { c with rows := c.rows.filter fun q => !(q.n == n) }, told_take (g := c) rfl (.inl tv), ?_, ⟨ok', C.ms, C.tr⟩, tm_row (C.ok.ok r hr), Nat.le_succ_of_le (List.length_filter_le _ _)⟩
    have fin : ((S40 c).set 0 (coC { c with rows := c.rows.filter fun q => !(q.n == n) })).set 1 (.dic ((c.rows.filter fun q => !(q.n == n)).map rwK)) = S40 { c with rows := c.rows.filter fun q => !(q.n == n) } := rfl
    generalize S40 { c with rows := c.rows.filter fun q => !(q.n == n) } = S2 at *
    generalize (S40 c).set 0 (coC { c with rows := c.rows.filter fun q => !(q.n == n) }) = S1 at *
    generalize (c.rows.filter fun q => !(q.n == n)).map rwK = L2 at *
    generalize c.rows.map rwK = L at *
    generalize rwD r = RD at *
    simp -implicitDefEqProofs [m_law_answer, g_law_answer, s4D, tx0, tx1, q1, q2, ir, fPopC, d1, keyD, vr, z2, dr, fin]
end BW
namespace BW
open PySem L2
/-- the codes of all rows -/
theorem vals_lk {S : Store} {c : Co} (h : S[1]? = some (.dic (c.rows.map rwK))) (few : c.rows.length ≤ 40) (r0 r1 : Option Slot) :
    fLk (refAt (fV 2)) (fFrz (fComp (fValsC (fV 2)) (tgName 3) fYes (f2 gIx (fV 3) (fC (.int 0))) [3])) [r0, r1, dd (.ref 1), none] S = .ok (.lst ((c.rows.map (·.c)).map .str)) S := by
  have hr1 : (S.set 1 (.dicL (c.rows.map rwK)))[1]? = some (.dicL (c.rows.map rwK)) := by rw [List.getElem?_set_self (lt_of_at h)]
  have back : (S.set 1 (.dicL (c.rows.map rwK))).set 1 (.dic (c.rows.map rwK)) = S := by rw [List.set_set]; exact dset_same h
  have it : (c.rows.map rwK).map (·.2) = c.rows.map rwD := by rw [List.map_map]; rfl
  have cm := compM (e := rwD) (t := tgName 3) (fe := f2 gIx (fV 3) (fC (.int 0))) (ρ := [r0, r1, dd (.ref 1), none]) (S := S.set 1 (.dicL (c.rows.map rwK))) (fun q => .str q.c) (xs := c.rows) (by omega) (fun q _ => ⟨_, rfl, by
    have j1 : ∀ S, gIx (rwD q) (.int 0) S = some (.str q.c) := fun S => rfl
    simp [j1]⟩)
  have ra : refAt (fV 2) [r0, r1, dd (.ref 1), none] S = some 1 := by simp -implicitDefEqProofs [refAt]
  generalize hS1 : S.set 1 (.dicL (c.rows.map rwK)) = S1 at *
  unfold fLk
  rw [ra]
  simp only [h, hS1]
  have fv : fFrz (fComp (fValsC (fV 2)) (tgName 3) fYes (f2 gIx (fV 3) (fC (.int 0))) [3]) [r0, r1, dd (.ref 1), none] S1 = .ok (.lst ((c.rows.map (·.c)).map .str)) S1 := by
    rw [List.map_map]
    have cm : _ = Res.ok (c.rows.map (D.str ∘ fun q => q.c)) S1 := cm
    simp -implicitDefEqProofs [fValsC, hr1, it, wipeE, cm]
  rw [fv]
  simp only [hr1, back]
theorem in_codes {c : Co} (ok : c.Ok) (S : Store) {code : Str} (hc : PyData.strOk code = true) : gIn false (.str code) (.lst ((c.rows.map (·.c)).map .str)) S = some (.bl (whoF c.rows code).isSome) := by
  have okl : okD 12 (.lst ((c.rows.map (·.c)).map .str)) = true := by
    rw [ok_lstC, List.all_eq_true]
    intro d hd
    obtain ⟨x, hx, rfl⟩ := List.mem_map.mp hd
    obtain ⟨q, hq, rfl⟩ := List.mem_map.mp hx
    simpa using (ok.ok q hq).c
  have an : (((c.rows.map (·.c)).map D.str).any fun z => deq z (.str code)) = (whoF c.rows code).isSome := by
    rw [List.map_map, List.any_map]
    unfold whoF
    rw [Bool.eq_iff_iff, List.find?_isSome, List.any_eq_true]
    simp
  show (if okD 12 (.str code) && okD 12 (.lst ((c.rows.map (·.c)).map .str)) then some (D.bl (xor false _)) else none) = _
  rw [okl, show okD 12 (.str code) = true by simpa using hc, an, Bool.false_xor]
  rfl
theorem give_bad {S : Store} {c : Co} (h : S[0]? = some (coC c)) {n cd r : D} {b1 b2 b3 : Bool} (f1 : NmF n b1) (f2 : CdF cd b2) (f3 : RtF r b3) :
    (b1 = false → m_Codes_give [.ref 0, n, cd, r] S = .err "NoName" S) ∧ (b1 = true → b2 = false → m_Codes_give [.ref 0, n, cd, r] S = .err "NoCode" S) ∧ (b1 = true → b2 = true → b3 = false → m_Codes_give [.ref 0, n, cd, r] S = .err "NoRight" S) := by
  have e1 := f1.1 S
  have e2 := f2.1 S
  have e3 := f3.1 S
  refine ⟨fun z => ?_, fun y z => ?_, fun x y z => ?_⟩
  · subst z
    simp -implicitDefEqProofs [m_Codes_give, g_Codes_give, e1]
  · subst y z
    simp -implicitDefEqProofs [m_Codes_give, g_Codes_give, e1, e2]
  · subst x y z
    simp -implicitDefEqProofs [m_Codes_give, g_Codes_give, e1, e2, e3]
theorem step_give {c : Co} (C : C4 c) (few : c.rows.length ≤ 38) {n cd r : D} (f1 : ∃ b, NmF n b) (f2 : ∃ b, CdF cd b) (f3 : ∃ b, RtF r b) :
    ∃ d S1 c', m_law_told [.ref 0, s4D (.give n cd r)] (S40 c) = .ok d S1 ∧ m_law_answer [.ref 2, s4D (.give n cd r)] S1 = .ok d (S40 c') ∧ C4 c' ∧ Tm d ∧ c'.rows.length ≤ c.rows.length + 1 := by
  obtain ⟨b1, F1⟩ := f1
  obtain ⟨b2, F2⟩ := f2
  obtain ⟨b3, F3⟩ := f3
  obtain ⟨g1, g2, g3⟩ := give_bad (S := S40 c) (c := c) rfl F1 F2 F3
  have q1 : ∀ S, gEq false (.str "give") (.str "ask") S = some (.bl false) := fun S => by kernel_rfl
  have q2 : ∀ S, gEq false (.str "give") (.str "take") S = some (.bl false) := fun S => by kernel_rfl
  have z2 : (2 : Nat) ≤ LIM := lim_small (by decide)
  have z4 : (4 : Nat) ≤ LIM := lim_small (by decide)
  have z0 : (0 : Nat) ≤ LIM := lim_small (by decide)
  have z1 : (1 : Nat) ≤ LIM := lim_small (by decide)
  have O := o40 c
  have ir := ix_dic O.co "rows"
  rw [v_rows] at ir
  have W := wd_all (S40 c)
  cases b1 with
  | false =>
    refine ⟨.tup [.str "refused", .int 0], S40 c, c, told_give (g := c) rfl (.inr ⟨"NoName", 0, inXS _ (by decide +kernel), W.1, rfl, g1 rfl⟩), ?_, C, tm_ref 0, by omega⟩
    have a1 := F1.2.1 (S40 c)
    generalize S40 c = S at *
    simp -implicitDefEqProofs [m_law_answer, g_law_answer, s4D, tx0, tx1, tx2, tx3, q1, q2, ir, a1, z2, z4]
  | true =>
    cases b2 with
    | false =>
      refine ⟨.tup [.str "refused", .int 1], S40 c, c, told_give (g := c) rfl (.inr ⟨"NoCode", 1, inXS _ (by decide +kernel), W.2.1, rfl, g2 rfl rfl⟩), ?_, C, tm_ref 1, by omega⟩
      have a1 := F1.2.1 (S40 c)
      have a2 := F2.2.1 (S40 c)
      generalize S40 c = S at *
      simp -implicitDefEqProofs [m_law_answer, g_law_answer, s4D, tx0, tx1, tx2, tx3, q1, q2, ir, a1, a2, z2, z4]
    | true =>
      cases b3 with
      | false =>
        refine ⟨.tup [.str "refused", .int 2], S40 c, c, told_give (g := c) rfl (.inr ⟨"NoRight", 2, inXS _ (by decide +kernel), W.2.2.1, rfl, g3 rfl rfl rfl⟩), ?_, C, tm_ref 2, by omega⟩
        have a1 := F1.2.1 (S40 c)
        have a2 := F2.2.1 (S40 c)
        have a3 := F3.2.1 (S40 c)
        generalize S40 c = S at *
        simp -implicitDefEqProofs [m_law_answer, g_law_answer, s4D, tx0, tx1, tx2, tx3, q1, q2, ir, a1, a2, a3, z2, z4, z0, z1]
      | true =>
        obtain ⟨nm, rfl, hn⟩ := F1.2.2 rfl
        obtain ⟨cc, rfl, hc⟩ := F2.2.2 rfl
        obtain ⟨rs, rfl, hr⟩ := F3.2.2 rfl
        have k : (⟨nm, cc, rs⟩ : Rwc).Ok := ⟨hn, hc, hr⟩
        have gv := give_ev (S := S40 c) (p := 0) (r := ⟨nm, cc, rs⟩) rfl C.ok k F1.1 F2.1 F3.1
        have ok' := give_ok C.ok k (by omega)
        have vi := val_is C.ok.nd nm
        unfold giveF at gv ok'
        by_cases hz : nm ∈ c.rows.map (·.n) ∨ (whoF c.rows cc).isSome = true
        · rw [if_pos hz] at gv
          have gv : m_Codes_give [.ref 0, .str nm, .str cc, .tup (rs.map .str)] (S40 c) = .err "Taken" (S40 c) := gv
          refine ⟨.tup [.str "refused", .int 3], S40 c, c, told_give (g := c) rfl (.inr ⟨"Taken", 3, inXS _ (by decide +kernel), W.2.2.2.1, rfl, gv⟩), ?_, C, tm_ref 3, by omega⟩
          have a1 := F1.2.1 (S40 c)
          have a2 := F2.2.1 (S40 c)
          have a3 := F3.2.1 (S40 c)
          have vl := vals_lk (S := S40 c) O.cr C.ok.few (dd (.ref 2)) (dd (.tup [.str "give", .str nm, .str cc, .tup (rs.map .str)]))
          have ic := in_codes C.ok (S40 c) hc
          have gx : gInX false (.str nm) (.ref 1) (S40 c) = some (.bl (decide (nm ∈ c.rows.map (·.n)))) := by
            rw [← vi]
            simp only [gInX, O.cr, keyD, Option.map_some, Bool.false_xor]
          generalize (c.rows.map (·.c)).map D.str = CL at *
          generalize S40 c = S at *
          generalize rs.map D.str = RS at *
          by_cases h1 : nm ∈ c.rows.map (·.n)
          · rw [decide_eq_true h1] at gx
            simp -implicitDefEqProofs [m_law_answer, g_law_answer, s4D, tx0, tx1, tx2, tx3, q1, q2, ir, a1, a2, a3, z2, z4, z0, z1, gx]
          · rw [decide_eq_false h1] at gx
            have h2 : (whoF c.rows cc).isSome = true := hz.resolve_left h1
            rw [h2] at ic
            simp -implicitDefEqProofs [m_law_answer, g_law_answer, s4D, tx0, tx1, tx2, tx3, q1, q2, ir, a1, a2, a3, z2, z4, z0, z1, gx, vl, ic]
        · rw [if_neg hz] at gv ok'
          have h1 : nm ∉ c.rows.map (·.n) := fun z => hz (.inl z)
          have h2 : (whoF c.rows cc).isSome = false := by
            cases e : (whoF c.rows cc).isSome with
            | false => rfl
            | true => exact absurd (.inr e) hz
          simp only [resC] at gv
          refine ⟨.int ((c.rows.length + 1 : Nat) : Int), (S40 c).set 0 (coC { c with rows := c.rows ++ [(⟨nm, cc, rs⟩ : Rwc)] }), ({ c with rows := c.rows ++ [(⟨nm, cc, rs⟩ : Rwc)] } : Co), told_give (g := c) rfl (.inl gv), ?_, ⟨ok', C.ms, C.tr⟩, ⟨by simp, by simp⟩, by simp⟩
          have O1 : OAt ((S40 c).set 0 (coC { c with rows := c.rows ++ [(⟨nm, cc, rs⟩ : Rwc)] })) 2 1 c := ⟨rfl, rfl, by decide⟩
          have fin : ((S40 c).set 0 (coC { c with rows := c.rows ++ [(⟨nm, cc, rs⟩ : Rwc)] })).set 1 (.dic ((c.rows ++ [(⟨nm, cc, rs⟩ : Rwc)]).map rwK)) = S40 ({ c with rows := c.rows ++ [(⟨nm, cc, rs⟩ : Rwc)] } : Co) := rfl
          generalize hS1 : (S40 c).set 0 (coC { c with rows := c.rows ++ [(⟨nm, cc, rs⟩ : Rwc)] }) = S1 at *
          have ir1 := ix_dic O1.co "rows"
          rw [v_rows] at ir1
          have a1 := F1.2.1 S1
          have a2 := F2.2.1 S1
          have a3 := F3.2.1 S1
          have vl := vals_lk (S := S1) O1.cr C.ok.few (dd (.ref 2)) (dd (.tup [.str "give", .str nm, .str cc, .tup (rs.map .str)]))
          have ic := in_codes C.ok S1 hc
          rw [h2] at ic
          have gx : gInX false (.str nm) (.ref 1) S1 = some (.bl false) := by
            have := vi
            rw [decide_eq_false h1] at this
            simp only [gInX, O1.cr, keyD, Option.map_some, Bool.false_xor, this]
          have d1 := dic_at O1.cr
          have pd := putD_new (v := D.tup [.str cc, .tup (rs.map .str)]) (val_none h1)
          have em : c.rows.map rwK ++ [(.inr nm, D.tup [.str cc, .tup (rs.map .str)])] = (c.rows ++ [(⟨nm, cc, rs⟩ : Rwc)]).map rwK := by rw [List.map_append]; rfl
          rw [em] at pd
          have ct : gCut (.tup [.str "give", .str nm, .str cc, .tup (rs.map .str)]) (some 2) none = some (.tup [.str cc, .tup (rs.map .str)]) := rfl
          have gl : gLen [.ref 1] (S40 ({ c with rows := c.rows ++ [(⟨nm, cc, rs⟩ : Rwc)] } : Co)) = some (.int ((c.rows.length + 1 : Nat) : Int)) := by
            show some (D.int (((c.rows ++ [(⟨nm, cc, rs⟩ : Rwc)]).map rwK).length : Nat)) = _
            simp
          have hl : (c.rows.map rwK).length < LIM := limlt_small (by simp; omega)
          generalize S40 ({ c with rows := c.rows ++ [(⟨nm, cc, rs⟩ : Rwc)] } : Co) = S2 at *
          generalize (c.rows.map (·.c)).map D.str = CL at *
          generalize (c.rows ++ [(⟨nm, cc, rs⟩ : Rwc)]).map rwK = L2 at *
          generalize c.rows.map rwK = L at *
          generalize rs.map D.str = RS at *
          generalize ((c.rows.length + 1 : Nat) : Int) = NN at *
          simp -implicitDefEqProofs [m_law_answer, g_law_answer, s4D, tx0, tx1, tx2, tx3, q1, q2, ir1, a1, a2, a3, z2, z4, z0, z1, gx, vl, ic, sPutC, ct, d1, keyD, hl, pd, fin, gl]
end BW
namespace BW
open PySem L2
theorem eq_blT (S : Store) (b : Bool) : gEq true (.bl b) (.bl b) S = some (.bl false) := by cases b <;> rfl
/-- the names of a code, as the law finds them -/
theorem names_lk2 {c : Co} (ok : c.Ok) {code : Str} (hc : PyData.strOk code = true) (r0 r1 r3 r4 r5 r6 r8 r9 : Option Slot) :
    fLk (refAt (f2 gIx (fV 2) (fC (.str "rows")))) (fFrz (fComp (fItemsC (f2 gIx (fV 2) (fC (.str "rows")))) (tgName 10) (fB (f2 (gEq false) (f2 gIx (f2 gIx (f2 gIx (fV 2) (fC (.str "rows"))) (fV 10)) (fC (.int 0))) (fV 7))) (fV 10) [10])) [r0, r1, dd (.ref 2), r3, r4, r5, r6, dd (.str code), r8, r9, none] (S40 c) = .ok (.lst ((c.rows.filter fun q => q.c == code).map fun q => .str q.n)) (S40 c) := by
  have h := o40 c
  have i1 := ix_dic h.co "rows"
  rw [v_rows] at i1
  have few := ok.few
  generalize S40 c = S at *
  have hr1 : (S.set 1 (.dicL (c.rows.map rwK)))[1]? = some (.dicL (c.rows.map rwK)) := by rw [List.getElem?_set_self (lt_of_at h.cr)]
  have ho1 : (S.set 1 (.dicL (c.rows.map rwK)))[2]? = some (.dic (ocL 1 c)) := by rw [List.getElem?_set_ne (Ne.symm h.ne)]; exact h.co
  have i2 := ix_dic ho1 "rows"
  rw [v_rows] at i2
  have i3 := fun n => ix_dicL hr1 n
  have back : (S.set 1 (.dicL (c.rows.map rwK))).set 1 (.dic (c.rows.map rwK)) = S := by rw [List.set_set]; exact dset_same h.cr
  have it : (c.rows.map rwK).map (fun kv => kD kv.1) = c.rows.map fun q => D.str q.n := by rw [List.map_map]; rfl
  have hr := h.cr
  generalize hS1 : S.set 1 (.dicL (c.rows.map rwK)) = S1 at *
  have cm := compT (e := fun q : Rwc => D.str q.n) (t := tgName 10) (ft := (fB (f2 (gEq false) (f2 gIx (f2 gIx (f2 gIx (fV 2) (fC (.str "rows"))) (fV 10)) (fC (.int 0))) (fV 7)))) (fe := fV 10) (ρ := [r0, r1, dd (.ref 2), r3, r4, r5, r6, dd (.str code), r8, r9, none]) (S := S1) (fun q => q.c == code) (fun q => .str q.n) (xs := c.rows) (by omega) (fun q hq => by
    have hv := val_row ok.nd hq
    have j1 : gIx (rwD q) (.int 0) S1 = some (.str q.c) := rfl
    have qq := eq_str S1 false q.c code (ok.ok q hq).c hc
    rw [Bool.false_xor] at qq
    exact ⟨_, rfl, by simp [i2, i3, hv, j1, qq], fun _ => by simp⟩)
  generalize (c.rows.filter fun q => q.c == code).map (fun q => D.str q.n) = L at *
  have ra : refAt (f2 gIx (fV 2) (fC (.str "rows"))) [r0, r1, dd (.ref 2), r3, r4, r5, r6, dd (.str code), r8, r9, none] S = some 1 := by
    simp -implicitDefEqProofs [refAt, i1]
  unfold fLk
  rw [ra]
  simp only [hr, hS1]
  have fv : fFrz (fComp (fItemsC (f2 gIx (fV 2) (fC (.str "rows")))) (tgName 10) (fB (f2 (gEq false) (f2 gIx (f2 gIx (f2 gIx (fV 2) (fC (.str "rows"))) (fV 10)) (fC (.int 0))) (fV 7))) (fV 10) [10]) [r0, r1, dd (.ref 2), r3, r4, r5, r6, dd (.str code), r8, r9, none] S1 = .ok (.lst L) S1 := by
    simp -implicitDefEqProofs [fItemsC, i2, hr1, it, wipeE, cm]
  rw [fv]
  simp only [hr1, back]
theorem b1_ev {c : Co} (C : C4 c) {code : Str} (hc : PyData.strOk code = true) (r0 r3 r4 r5 r6 r8 r9 : Option Slot) :
    ∃ r9', b_law_1 [r0, dd (.ref 0), dd (.ref 2), r3, r4, r5, r6, dd (.str code), r8, r9, none] (S40 c) = .next [r0, dd (.ref 0), dd (.ref 2), r3, r4, r5, r6, dd (.str code), r8, r9', none] (S40 c) := by
  have nm := names_lk2 C.ok hc r0 (dd (.ref 0)) r3 r4 r5 r6 r8 r9
  have wv := who_ev (S := S40 c) (p := 0) rfl C.ok code hc
  have ac : insAt "Codes" (.ref 0) (S40 c) = some (0, coF c) := at_c (S := S40 c) (i := 0) rfl
  have okl : okD 12 (.lst ((c.rows.filter fun q => q.c == code).map fun q => D.str q.n)) = true := by
    simp only [okD, List.all_eq_true]
    intro d hd
    obtain ⟨q, hq, rfl⟩ := List.mem_map.mp hd
    exact (C.ok.ok q (List.mem_filter.mp hq).1).n
  refine ⟨dd (.lst ((c.rows.filter fun q => q.c == code).map fun q => .str q.n)), ?_⟩
  unfold whoF at wv
  rw [find_head] at wv
  unfold b_law_1
  rw [seq_next (ρ1 := [r0, dd (.ref 0), dd (.ref 2), r3, r4, r5, r6, dd (.str code), r8, dd (.lst ((c.rows.filter fun q => q.c == code).map fun q => .str q.n)), none]) (S1 := S40 c) (by rw [e_sSet, nm]; rfl)]
  cases hw : (c.rows.filter fun q => q.c == code) with
  | nil =>
    rw [hw] at wv
    have wv : m_Codes_who [.ref 0, .str code] (S40 c) = .ok .non (S40 c) := wv
    have q4 : ∀ S, gEq true (.lst []) (.lst []) S = some (.bl false) := fun S => rfl
    have q5 : ∀ S, gEq true .non .non S = some (.bl false) := fun S => rfl
    have z0 : (0 : Nat) ≤ LIM := lim_small (by decide)
    generalize S40 c = S at *
    simp -implicitDefEqProofs [ac, wv, q4, q5, z0]
  | cons x l =>
    rw [hw] at wv okl
    have hx : x ∈ c.rows := by
      have : x ∈ (c.rows.filter fun q => q.c == code) := by rw [hw]; exact List.mem_cons_self
      exact (List.mem_filter.mp this).1
    have wv : m_Codes_who [.ref 0, .str code] (S40 c) = .ok (.str x.n) (S40 c) := wv
    have q4 : ∀ S, gEq true (.lst ((x :: l).map fun q => D.str q.n)) (.lst []) S = some (.bl true) := fun S => by
      rw [eq_ok S true okl rfl]; rfl
    have j0 : ∀ S, gIx (.lst ((x :: l).map fun q => D.str q.n)) (.int 0) S = some (.str x.n) := fun S => by rw [ix_lst _ _ (by decide)]; rfl
    have q5 : gEq true (.str x.n) (.str x.n) (S40 c) = some (.bl false) := by
      rw [eq_str (S40 c) true _ _ (C.ok.ok x hx).n (C.ok.ok x hx).n]; simp
    have z0 : (0 : Nat) ≤ LIM := lim_small (by decide)
    generalize (x :: l).map (fun q => D.str q.n) = L at *
    generalize S40 c = S at *
    simp -implicitDefEqProofs [ac, wv, q4, j0, q5, z0]
theorem b2_ev {c : Co} (C : C4 c) (m : Int) (r0 r3 r4 r5 r6 r7 r9 r10 : Option Slot) :
    b_law_2 [r0, dd (.ref 0), dd (.ref 2), r3, r4, r5, r6, r7, dd (.int m), r9, r10] (S40 c) = .next [r0, dd (.ref 0), dd (.ref 2), r3, r4, r5, r6, r7, dd (.int m), r9, r10] (S40 c) := by
  have lv := locked_ev (S := S40 c) (p := 0) (c := c) rfl m
  have ac : insAt "Codes" (.ref 0) (S40 c) = some (0, coF c) := at_c (S := S40 c) (i := 0) rfl
  have isi := ix_dic (o40 c).co "since"
  rw [v_since] at isi
  have ish := ix_dic (o40 c).co "shut"
  rw [v_shut] at ish
  generalize S40 c = S at *
  have q2 : gLe (.int c.since) (.int m) S = some (.bl (decide (c.since ≤ m))) := rfl
  have q3 : gLt (.int m) (.int c.shut) S = some (.bl (decide (m < c.shut))) := rfl
  generalize decide (c.since ≤ m) = x1 at *
  generalize decide (m < c.shut) = x2 at *
  cases x1 with
  | false =>
    have q1 := eq_blT S false
    simp -implicitDefEqProofs [b_law_2, ac, lv, isi, q2, q1]
  | true =>
    have q1 := eq_blT S x2
    simp -implicitDefEqProofs [b_law_2, ac, lv, isi, q2, ish, q3, q1]
theorem tm_strs {l : List Str} (h : l.all PyData.strOk = true) : Tm (.lst (l.map .str)) := by
  refine ⟨?_, by simp [deqs_strs]⟩
  simp only [ok_lstC, List.all_map]
  exact h
theorem b3_ev (ns : List Int) (hns : ns.length ≤ 63) {c : Co} (C : C4 c) (few : c.rows.length ≤ 38) (k : Int) (r4 r5 r6 r7 r8 r9 : Option Slot) :
    ∃ c' r6' r7' r8' r9', b_law_3 [dd (.scr ns), dd (.ref 0), dd (.ref 2), dd (.int k), r4, r5, r6, r7, r8, r9, none] (S40 c) = .next [dd (.scr ns), dd (.ref 0), dd (.ref 2), dd (.int k), r4, r5, r6', r7', r8', r9', none] (S40 c') ∧ C4 c' ∧ c'.rows.length ≤ c.rows.length + 1 := by
  have m8 := mul_ok (S40 c) (i := 8) (j := k) (.inl (by decide))
  obtain ⟨t, tg, te⟩ := wish_ev ns hns (10 + 8 * k) c
  have st : ∃ d S1 c', m_law_told [.ref 0, s4D t] (S40 c) = .ok d S1 ∧ m_law_answer [.ref 2, s4D t] S1 = .ok d (S40 c') ∧ C4 c' ∧ Tm d ∧ c'.rows.length ≤ c.rows.length + 1 := by
    cases t with
    | give n cd r => exact step_give C few tg.1 tg.2.1 tg.2.2
    | take n => exact step_take C tg
    | ask code m right => exact step_ask C m tg.1 tg.2
  obtain ⟨d, S1, c', e1, e2, C', tm, hl⟩ := st
  have qd := tm.eq (S40 c') true
  have ac : insAt "Codes" (.ref 0) (S40 c') = some (0, coF c') := at_c (S := S40 c') (i := 0) rfl
  have nv := names_ev (S := S40 c') (p := 0) (c := c') rfl C'.ok
  have ir := ix_dic (o40 c').co "rows"
  rw [v_rows] at ir
  have d1 := dic_at (o40 c').cr
  have sk := skeysR c'.rows
  have l64 : (c'.rows.map (·.n)).length < 64 := by have := C'.ok.few; simp; omega
  have tmn := tm_strs (l := ssort (c'.rows.map (·.n))) (by
    rw [List.all_eq_true]
    intro x hx
    obtain ⟨q, hq, rfl⟩ := List.mem_map.mp ((ssort_perm _).mem_iff.mp hx)
    exact (C'.ok.ok q hq).n)
  have qn := tmn.eq (S40 c') true
  have il := ix_dic (o40 c').co "last"
  rw [v_last] at il
  have ish := ix_dic (o40 c').co "shut"
  rw [v_shut] at ish
  obtain ⟨ρ4, f4, r7', r9', e4⟩ := forI (e := D.str) (t := tgName 7) (g := b_law_1) (S := S40 c') (fun dn ρ => ∃ r7 r9, ρ = [dd (.scr ns), dd (.ref 0), dd (.ref 2), dd (.int k), r4, r5, dd (s4D t), r7, r8, r9, none]) ["0000", "1234", "00000", "999999", "7777"] [] [dd (.scr ns), dd (.ref 0), dd (.ref 2), dd (.int k), r4, r5, dd (s4D t), r7, r8, r9, none] ⟨_, _, rfl⟩ (fun dn x rs ρ hd ⟨r7, r9, e⟩ => by
    subst e
    have hx : x ∈ (["0000", "1234", "00000", "999999", "7777"] : List Str) := (mid_mem hd).1
    have okx : PyData.strOk x = true := by
      simp only [List.mem_cons, List.not_mem_nil, or_false] at hx
      rcases hx with rfl | rfl | rfl | rfl | rfl <;> exact ofS_ok _
    obtain ⟨y9, ev⟩ := b1_ev C' okx (dd (.scr ns)) (dd (.int k)) r4 r5 (dd (s4D t)) r8 r9
    exact ⟨_, _, rfl, ev, _, _, rfl⟩)
  subst e4
  have mx : gMax [.int 0, .int (c'.shut - 1)] (S40 c') = some (.int (hi2 0 (c'.shut - 1))) := rfl
  obtain ⟨ρ5, f5, r8', e5⟩ := forI (e := D.int) (t := tgName 8) (g := b_law_2) (S := S40 c') (fun dn ρ => ∃ r8, ρ = [dd (.scr ns), dd (.ref 0), dd (.ref 2), dd (.int k), r4, r5, dd (s4D t), r7', r8, r9', none]) [c'.last, c'.shut, hi2 0 (c'.shut - 1), c'.last + 30] [] [dd (.scr ns), dd (.ref 0), dd (.ref 2), dd (.int k), r4, r5, dd (s4D t), r7', r8, r9', none] ⟨_, rfl⟩ (fun dn m rs ρ hd ⟨r8, e⟩ => by
    subst e
    exact ⟨_, _, rfl, b2_ev C' m (dd (.scr ns)) (dd (.int k)) r4 r5 (dd (s4D t)) r7' r9' none, _, rfl⟩)
  subst e5
  refine ⟨c', dd (s4D t), r7', r8', r9', ?_, C', hl⟩
  simp only [List.map_cons, List.map_nil] at f4 f5
  have z5 : (5 : Nat) ≤ LIM := lim_small (by decide)
  have z4 : (4 : Nat) ≤ LIM := lim_small (by decide)
  have sb : ∀ (S : Store) (a b : Int), gSub (.int a) (.int b) S = some (.int (a - b)) := fun _ _ _ => rfl
  generalize c'.rows.map (·.n) = ks at *
  generalize hi2 0 (c'.shut - 1) = hx at *
  generalize s4D t = sd at *
  unfold b_law_3
  rw [seq_next (ρ1 := [dd (.scr ns), dd (.ref 0), dd (.ref 2), dd (.int k), r4, r5, dd sd, r7, r8, r9, none]) (S1 := S40 c) (by
    generalize S40 c = S at *
    simp -implicitDefEqProofs [m8, te])]
  rw [seq_next (ρ1 := [dd (.scr ns), dd (.ref 0), dd (.ref 2), dd (.int k), r4, r5, dd sd, r7, r8, r9, none]) (S1 := S40 c') (by
    generalize S40 c = S at *
    generalize S40 c' = S' at *
    simp -implicitDefEqProofs [e1, e2, qd])]
  rw [seq_next (ρ1 := [dd (.scr ns), dd (.ref 0), dd (.ref 2), dd (.int k), r4, r5, dd sd, r7, r8, r9, none]) (S1 := S40 c') (by
    generalize S40 c' = S' at *
    generalize c'.rows.map rwK = L at *
    simp -implicitDefEqProofs [ac, nv, fSortK, ir, d1, sk, l64, qn])]
  rw [seq_next (ρ1 := [dd (.scr ns), dd (.ref 0), dd (.ref 2), dd (.int k), r4, r5, dd sd, r7', r8, r9', none]) (S1 := S40 c') (by
    generalize S40 c' = S' at *
    simp -implicitDefEqProofs [z5, f4])]
  generalize S40 c' = S' at *
  simp -implicitDefEqProofs [il, ish, sb, mx, z4, f5]
theorem lawOk : LawOk m_law := by
  intro ns hn
  have d0 := drawn_ev ns hn 0 4 (by decide) []
  have t0 := drawn_lt ns 0 (many := 4) (by decide)
  have d1 := drawn_ev ns hn 1 25 (by decide) []
  generalize drawnF ns 0 4 = w0 at *
  generalize drawnF ns 1 25 = w1 at *
  generalize htt : 1 + w0 = t at *
  generalize hrr : 1 + w1 = r at *
  have k0 := cinit_ev [] t r
  simp only [List.length_nil, List.nil_append] at k0
  have oc : m_law_codes [.int t, .int r] [coC (co0 t r)] = .ok (.ref 2) (S40 (co0 t r)) := by
    have mg : mergeD [] [(.inr "tries", .int t), (.inr "rest", .int r), (.inr "rows", .ref 1), (.inr "misses", .int 0), (.inr "since", .int 0), (.inr "shut", .int 0), (.inr "last", .int 0)] = ocL 1 (co0 t r) := by kernel_rfl
    have e : S40 (co0 t r) = [coC (co0 t r), .dic [], .dic (ocL 1 (co0 t r))] := rfl
    rw [e]
    generalize coC (co0 t r) = CC at *
    simp -implicitDefEqProofs [m_law_codes, g_law_codes, fCellD, fPc, fP0, fCell0, mg]
  have C0 : C4 (co0 t r) := ⟨co0_ok t r, by show (0 : Int) < t; omega, by show (1 : Int) ≤ t; omega⟩
  have ls : ∀ S, gLen [.scr ns] S = some (.int (ns.length : Nat)) := fun S => rfl
  have mn : ∀ S, gMin [.int 24, .int (ns.length : Nat)] S = some (.int (lo2 24 (ns.length : Int))) := fun S => rfl
  have mx : ∀ S, gMax [.int 1, .int (lo2 24 (ns.length : Int))] S = some (.int (hi2 1 (lo2 24 (ns.length : Int)))) := fun S => rfl
  have hK : 1 ≤ hi2 1 (lo2 24 (ns.length : Int)) ∧ hi2 1 (lo2 24 (ns.length : Int)) ≤ 24 := by
    unfold hi2 lo2
    split <;> split <;> omega
  generalize hi2 1 (lo2 24 (ns.length : Int)) = K at *
  generalize lo2 24 (ns.length : Int) = K' at *
  have rk : kRng1 [.int K] = some ((iv 0 K.toNat).map .int) := by rw [rng1 (by omega) (by omega), rng_iv]
  obtain ⟨ρ1, S1, f1, c1, y3, y6, y7, y8, y9, e1, _⟩ := forDn (e := D.int) (t := tgName 3) (g := b_law_3) (fun dn ρ S => ∃ (c : Co) (y3 y6 y7 y8 y9 : Option Slot), ρ = [dd (.scr ns), dd (.ref 0), dd (.ref 2), y3, dd (.int t), dd (.int r), y6, y7, y8, y9, none] ∧ S = S40 c ∧ C4 c ∧ c.rows.length ≤ dn.length) (iv 0 K.toNat) [] [dd (.scr ns), dd (.ref 0), dd (.ref 2), none, dd (.int t), dd (.int r), none, none, none, none, none] (S40 (co0 t r)) ⟨co0 t r, none, none, none, none, none, rfl, rfl, C0, by simp [co0]⟩ (by
    rintro dn k rr ρ S hd ⟨c, y3, y6, y7, y8, y9, rfl, rfl, C, hl⟩
    have hlt := (mid_mem hd).2
    rw [iv_len] at hlt
    obtain ⟨c', z6, z7, z8, z9, ev, C', hl'⟩ := b3_ev ns hn C (by omega) k (dd (.int t)) (dd (.int r)) y6 y7 y8 y9
    exact ⟨_, _, _, rfl, ev, c', _, z6, z7, z8, z9, rfl, rfl, C', by rw [List.length_append]; simp; omega⟩)
  subst e1
  generalize (iv 0 K.toNat).map D.int = KL at *
  generalize S40 (co0 t r) = S2 at *
  generalize coC (co0 t r) = CC at *
  refine law_gets ?_
  unfold g_law
  (refine seqK fun k' hk' => ?_; simp -implicitDefEqProofs [d0, d1, htt, hrr, sPar]; subst hk')
  (refine seqK fun k' hk' => ?_; simp -implicitDefEqProofs [k0]; subst hk')
  (refine seqK fun k' hk' => ?_; simp -implicitDefEqProofs [oc]; subst hk')
  (refine seqK fun k' hk' => ?_; simp -implicitDefEqProofs [ls, mn, mx, rk, f1]; subst hk')
  simp
end BW
namespace BW
open PySem PySem.Spec PyProof.Rows L2
theorem all_mk {l : PySem.W.OpenLaw} {w : World} {K : PySem.W.Frag} {h : Heap} {mg : Str → Option Value} {fa : Addr} (X : K.In h) (G : h.Ns mainGlobals mg) (hfa : mg "law" = some (.ref fa))
    {x0 : Addr}
    {x1 : Addr}
    {x2 : Addr}
    {x3 : Addr}
    {x4 : Addr}
    {x5 : Addr}
    {x6 : Addr}
    {x7 : Addr}
    {k_Codes : Addr}
    {f0 : Addr} {od0 an0 : Option Addr} {sl0 : Array (Option Value)} {oc0 kV0 dc0 pm0 cd0 ct0 : Value}
    {f1 : Addr} {od1 an1 : Option Addr} {sl1 : Array (Option Value)} {oc1 kV1 dc1 pm1 cd1 ct1 : Value}
    {f2 : Addr} {od2 an2 : Option Addr} {sl2 : Array (Option Value)} {oc2 kV2 dc2 pm2 cd2 ct2 : Value}
    {f3 : Addr} {od3 an3 : Option Addr} {sl3 : Array (Option Value)} {oc3 kV3 dc3 pm3 cd3 ct3 : Value}
    {f4 : Addr} {od4 an4 : Option Addr} {sl4 : Array (Option Value)} {oc4 kV4 dc4 pm4 cd4 ct4 : Value}
    {f5 : Addr} {od5 an5 : Option Addr} {sl5 : Array (Option Value)} {oc5 kV5 dc5 pm5 cd5 ct5 : Value}
    {f6 : Addr} {od6 an6 : Option Addr} {sl6 : Array (Option Value)} {oc6 kV6 dc6 pm6 cd6 ct6 : Value}
    {f7 : Addr} {od7 an7 : Option Addr} {sl7 : Array (Option Value)} {oc7 kV7 dc7 pm7 cd7 ct7 : Value}
    {f8 : Addr} {od8 an8 : Option Addr} {sl8 : Array (Option Value)} {oc8 kV8 dc8 pm8 cd8 ct8 : Value}
    {f9 : Addr} {od9 an9 : Option Addr} {sl9 : Array (Option Value)} {oc9 kV9 dc9 pm9 cd9 ct9 : Value}
    {f10 : Addr} {od10 an10 : Option Addr} {sl10 : Array (Option Value)} {oc10 kV10 dc10 pm10 cd10 ct10 : Value}
    {f11 : Addr} {od11 an11 : Option Addr} {sl11 : Array (Option Value)} {oc11 kV11 dc11 pm11 cd11 ct11 : Value}
    {f12 : Addr} {od12 an12 : Option Addr} {sl12 : Array (Option Value)} {oc12 kV12 dc12 pm12 cd12 ct12 : Value}
    {f13 : Addr} {od13 an13 : Option Addr} {sl13 : Array (Option Value)} {oc13 kV13 dc13 pm13 cd13 ct13 : Value}
    {f14 : Addr} {od14 an14 : Option Addr} {sl14 : Array (Option Value)} {oc14 kV14 dc14 pm14 cd14 ct14 : Value}
    {f15 : Addr} {od15 an15 : Option Addr} {sl15 : Array (Option Value)} {oc15 kV15 dc15 pm15 cd15 ct15 : Value}
    {f16 : Addr} {od16 an16 : Option Addr} {sl16 : Array (Option Value)} {oc16 kV16 dc16 pm16 cd16 ct16 : Value}
    {f17 : Addr} {od17 an17 : Option Addr} {sl17 : Array (Option Value)} {oc17 kV17 dc17 pm17 cd17 ct17 : Value}
    {f18 : Addr} {od18 an18 : Option Addr} {sl18 : Array (Option Value)} {oc18 kV18 dc18 pm18 cd18 ct18 : Value}
    {ga2 : Addr} {gn2 : Nat} {gsl2 : Array (Option Value)}
    {t0 t1 t2 t3 : Tok}
    (gx0 : PySem.W.nsIn K mainGlobals "BoltError" = some (some (.ref x0)))
    (xq0 : PySem.W.excIn K x0 veMro "ValueError.__new__" = true)
    (xk0 : PySem.W.keepIn K (.ref x0) = true)
    (xb0 : PySem.W.subIn K (.ref x0) (.type "BaseException") = some true)
    (xt0 : PySem.W.typeIn K (.ref x0) = some (.type "type"))
    (xc0 : PySem.W.isClsIn K x0 = true)
    (xg0 : PySem.W.findIn K (.ref x0) "__getattribute__" = some (some (.builtin "BaseException.__getattribute__")))
    (xh0 : PySem.W.findIn K (.ref x0) "__getattr__" = some none)
    (xd0 : PySem.W.hasDictIn K x0 = true)
    (xa0 : PySem.W.findIn K (.ref x0) "__class__" = some (some (.builtin "object.__class__")))
    (xm0 : PySem.W.mroIn K x0 (.type "object") = some true)
    (gx1 : PySem.W.nsIn K mainGlobals "NoTime" = some (some (.ref x1)))
    (xq1 : PySem.W.excIn K x1 veMro "ValueError.__new__" = true)
    (xk1 : PySem.W.keepIn K (.ref x1) = true)
    (xb1 : PySem.W.subIn K (.ref x1) (.type "BaseException") = some true)
    (xt1 : PySem.W.typeIn K (.ref x1) = some (.type "type"))
    (xc1 : PySem.W.isClsIn K x1 = true)
    (xg1 : PySem.W.findIn K (.ref x1) "__getattribute__" = some (some (.builtin "BaseException.__getattribute__")))
    (xh1 : PySem.W.findIn K (.ref x1) "__getattr__" = some none)
    (xd1 : PySem.W.hasDictIn K x1 = true)
    (xa1 : PySem.W.findIn K (.ref x1) "__class__" = some (some (.builtin "object.__class__")))
    (xm1 : PySem.W.mroIn K x1 (.type "object") = some true)
    (gx2 : PySem.W.nsIn K mainGlobals "NoName" = some (some (.ref x2)))
    (xq2 : PySem.W.excIn K x2 veMro "ValueError.__new__" = true)
    (xk2 : PySem.W.keepIn K (.ref x2) = true)
    (xb2 : PySem.W.subIn K (.ref x2) (.type "BaseException") = some true)
    (xt2 : PySem.W.typeIn K (.ref x2) = some (.type "type"))
    (xc2 : PySem.W.isClsIn K x2 = true)
    (xg2 : PySem.W.findIn K (.ref x2) "__getattribute__" = some (some (.builtin "BaseException.__getattribute__")))
    (xh2 : PySem.W.findIn K (.ref x2) "__getattr__" = some none)
    (xd2 : PySem.W.hasDictIn K x2 = true)
    (xa2 : PySem.W.findIn K (.ref x2) "__class__" = some (some (.builtin "object.__class__")))
    (xm2 : PySem.W.mroIn K x2 (.type "object") = some true)
    (gx3 : PySem.W.nsIn K mainGlobals "NoCode" = some (some (.ref x3)))
    (xq3 : PySem.W.excIn K x3 veMro "ValueError.__new__" = true)
    (xk3 : PySem.W.keepIn K (.ref x3) = true)
    (xb3 : PySem.W.subIn K (.ref x3) (.type "BaseException") = some true)
    (xt3 : PySem.W.typeIn K (.ref x3) = some (.type "type"))
    (xc3 : PySem.W.isClsIn K x3 = true)
    (xg3 : PySem.W.findIn K (.ref x3) "__getattribute__" = some (some (.builtin "BaseException.__getattribute__")))
    (xh3 : PySem.W.findIn K (.ref x3) "__getattr__" = some none)
    (xd3 : PySem.W.hasDictIn K x3 = true)
    (xa3 : PySem.W.findIn K (.ref x3) "__class__" = some (some (.builtin "object.__class__")))
    (xm3 : PySem.W.mroIn K x3 (.type "object") = some true)
    (gx4 : PySem.W.nsIn K mainGlobals "NoRight" = some (some (.ref x4)))
    (xq4 : PySem.W.excIn K x4 veMro "ValueError.__new__" = true)
    (xk4 : PySem.W.keepIn K (.ref x4) = true)
    (xb4 : PySem.W.subIn K (.ref x4) (.type "BaseException") = some true)
    (xt4 : PySem.W.typeIn K (.ref x4) = some (.type "type"))
    (xc4 : PySem.W.isClsIn K x4 = true)
    (xg4 : PySem.W.findIn K (.ref x4) "__getattribute__" = some (some (.builtin "BaseException.__getattribute__")))
    (xh4 : PySem.W.findIn K (.ref x4) "__getattr__" = some none)
    (xd4 : PySem.W.hasDictIn K x4 = true)
    (xa4 : PySem.W.findIn K (.ref x4) "__class__" = some (some (.builtin "object.__class__")))
    (xm4 : PySem.W.mroIn K x4 (.type "object") = some true)
    (gx5 : PySem.W.nsIn K mainGlobals "Taken" = some (some (.ref x5)))
    (xq5 : PySem.W.excIn K x5 veMro "ValueError.__new__" = true)
    (xk5 : PySem.W.keepIn K (.ref x5) = true)
    (xb5 : PySem.W.subIn K (.ref x5) (.type "BaseException") = some true)
    (xt5 : PySem.W.typeIn K (.ref x5) = some (.type "type"))
    (xc5 : PySem.W.isClsIn K x5 = true)
    (xg5 : PySem.W.findIn K (.ref x5) "__getattribute__" = some (some (.builtin "BaseException.__getattribute__")))
    (xh5 : PySem.W.findIn K (.ref x5) "__getattr__" = some none)
    (xd5 : PySem.W.hasDictIn K x5 = true)
    (xa5 : PySem.W.findIn K (.ref x5) "__class__" = some (some (.builtin "object.__class__")))
    (xm5 : PySem.W.mroIn K x5 (.type "object") = some true)
    (gx6 : PySem.W.nsIn K mainGlobals "Wrong" = some (some (.ref x6)))
    (xq6 : PySem.W.excIn K x6 veMro "ValueError.__new__" = true)
    (xk6 : PySem.W.keepIn K (.ref x6) = true)
    (xb6 : PySem.W.subIn K (.ref x6) (.type "BaseException") = some true)
    (xt6 : PySem.W.typeIn K (.ref x6) = some (.type "type"))
    (xc6 : PySem.W.isClsIn K x6 = true)
    (xg6 : PySem.W.findIn K (.ref x6) "__getattribute__" = some (some (.builtin "BaseException.__getattribute__")))
    (xh6 : PySem.W.findIn K (.ref x6) "__getattr__" = some none)
    (xd6 : PySem.W.hasDictIn K x6 = true)
    (xa6 : PySem.W.findIn K (.ref x6) "__class__" = some (some (.builtin "object.__class__")))
    (xm6 : PySem.W.mroIn K x6 (.type "object") = some true)
    (gx7 : PySem.W.nsIn K mainGlobals "Locked" = some (some (.ref x7)))
    (xq7 : PySem.W.excIn K x7 veMro "ValueError.__new__" = true)
    (xk7 : PySem.W.keepIn K (.ref x7) = true)
    (xb7 : PySem.W.subIn K (.ref x7) (.type "BaseException") = some true)
    (xt7 : PySem.W.typeIn K (.ref x7) = some (.type "type"))
    (xc7 : PySem.W.isClsIn K x7 = true)
    (xg7 : PySem.W.findIn K (.ref x7) "__getattribute__" = some (some (.builtin "BaseException.__getattribute__")))
    (xh7 : PySem.W.findIn K (.ref x7) "__getattr__" = some none)
    (xd7 : PySem.W.hasDictIn K x7 = true)
    (xa7 : PySem.W.findIn K (.ref x7) "__class__" = some (some (.builtin "object.__class__")))
    (xm7 : PySem.W.mroIn K x7 (.type "object") = some true)
    (xn : PySem.W.specialIn K (.builtin "object.__class__") "__get__" = some (some (.builtin "getset_descriptor.__get__")))
    (xtk : PySem.W.takesIn K (.builtin "object.__class__") = some true)
    (z_VE : PySem.W.nsIn K mainGlobals "ValueError" = some none)
    (sv1 : PySem.W.subIn K (.ref x1) (.type "ValueError") = some true)
    (s1_0 : PySem.W.subIn K (.ref x1) (.ref x0) = some true)
    (s1_1 : PySem.W.subIn K (.ref x1) (.ref x1) = some true)
    (s1_2 : PySem.W.subIn K (.ref x1) (.ref x2) = some false)
    (s1_3 : PySem.W.subIn K (.ref x1) (.ref x3) = some false)
    (s1_4 : PySem.W.subIn K (.ref x1) (.ref x4) = some false)
    (s1_5 : PySem.W.subIn K (.ref x1) (.ref x5) = some false)
    (s1_6 : PySem.W.subIn K (.ref x1) (.ref x6) = some false)
    (s1_7 : PySem.W.subIn K (.ref x1) (.ref x7) = some false)
    (sv2 : PySem.W.subIn K (.ref x2) (.type "ValueError") = some true)
    (s2_0 : PySem.W.subIn K (.ref x2) (.ref x0) = some true)
    (s2_1 : PySem.W.subIn K (.ref x2) (.ref x1) = some false)
    (s2_2 : PySem.W.subIn K (.ref x2) (.ref x2) = some true)
    (s2_3 : PySem.W.subIn K (.ref x2) (.ref x3) = some false)
    (s2_4 : PySem.W.subIn K (.ref x2) (.ref x4) = some false)
    (s2_5 : PySem.W.subIn K (.ref x2) (.ref x5) = some false)
    (s2_6 : PySem.W.subIn K (.ref x2) (.ref x6) = some false)
    (s2_7 : PySem.W.subIn K (.ref x2) (.ref x7) = some false)
    (sv3 : PySem.W.subIn K (.ref x3) (.type "ValueError") = some true)
    (s3_0 : PySem.W.subIn K (.ref x3) (.ref x0) = some true)
    (s3_1 : PySem.W.subIn K (.ref x3) (.ref x1) = some false)
    (s3_2 : PySem.W.subIn K (.ref x3) (.ref x2) = some false)
    (s3_3 : PySem.W.subIn K (.ref x3) (.ref x3) = some true)
    (s3_4 : PySem.W.subIn K (.ref x3) (.ref x4) = some false)
    (s3_5 : PySem.W.subIn K (.ref x3) (.ref x5) = some false)
    (s3_6 : PySem.W.subIn K (.ref x3) (.ref x6) = some false)
    (s3_7 : PySem.W.subIn K (.ref x3) (.ref x7) = some false)
    (sv4 : PySem.W.subIn K (.ref x4) (.type "ValueError") = some true)
    (s4_0 : PySem.W.subIn K (.ref x4) (.ref x0) = some true)
    (s4_1 : PySem.W.subIn K (.ref x4) (.ref x1) = some false)
    (s4_2 : PySem.W.subIn K (.ref x4) (.ref x2) = some false)
    (s4_3 : PySem.W.subIn K (.ref x4) (.ref x3) = some false)
    (s4_4 : PySem.W.subIn K (.ref x4) (.ref x4) = some true)
    (s4_5 : PySem.W.subIn K (.ref x4) (.ref x5) = some false)
    (s4_6 : PySem.W.subIn K (.ref x4) (.ref x6) = some false)
    (s4_7 : PySem.W.subIn K (.ref x4) (.ref x7) = some false)
    (sv5 : PySem.W.subIn K (.ref x5) (.type "ValueError") = some true)
    (s5_0 : PySem.W.subIn K (.ref x5) (.ref x0) = some true)
    (s5_1 : PySem.W.subIn K (.ref x5) (.ref x1) = some false)
    (s5_2 : PySem.W.subIn K (.ref x5) (.ref x2) = some false)
    (s5_3 : PySem.W.subIn K (.ref x5) (.ref x3) = some false)
    (s5_4 : PySem.W.subIn K (.ref x5) (.ref x4) = some false)
    (s5_5 : PySem.W.subIn K (.ref x5) (.ref x5) = some true)
    (s5_6 : PySem.W.subIn K (.ref x5) (.ref x6) = some false)
    (s5_7 : PySem.W.subIn K (.ref x5) (.ref x7) = some false)
    (sv6 : PySem.W.subIn K (.ref x6) (.type "ValueError") = some true)
    (s6_0 : PySem.W.subIn K (.ref x6) (.ref x0) = some true)
    (s6_1 : PySem.W.subIn K (.ref x6) (.ref x1) = some false)
    (s6_2 : PySem.W.subIn K (.ref x6) (.ref x2) = some false)
    (s6_3 : PySem.W.subIn K (.ref x6) (.ref x3) = some false)
    (s6_4 : PySem.W.subIn K (.ref x6) (.ref x4) = some false)
    (s6_5 : PySem.W.subIn K (.ref x6) (.ref x5) = some false)
    (s6_6 : PySem.W.subIn K (.ref x6) (.ref x6) = some true)
    (s6_7 : PySem.W.subIn K (.ref x6) (.ref x7) = some false)
    (sv7 : PySem.W.subIn K (.ref x7) (.type "ValueError") = some true)
    (s7_0 : PySem.W.subIn K (.ref x7) (.ref x0) = some true)
    (s7_1 : PySem.W.subIn K (.ref x7) (.ref x1) = some false)
    (s7_2 : PySem.W.subIn K (.ref x7) (.ref x2) = some false)
    (s7_3 : PySem.W.subIn K (.ref x7) (.ref x3) = some false)
    (s7_4 : PySem.W.subIn K (.ref x7) (.ref x4) = some false)
    (s7_5 : PySem.W.subIn K (.ref x7) (.ref x5) = some false)
    (s7_6 : PySem.W.subIn K (.ref x7) (.ref x6) = some false)
    (s7_7 : PySem.W.subIn K (.ref x7) (.ref x7) = some true)
    (ak_Codes : PySem.W.nsIn K mainGlobals "Codes" = some (some (.ref k_Codes)))
    (pg_Codes : PySem.W.plainGet K k_Codes Str.empty = true)
    (hd_Codes : PySem.W.hasDictIn K k_Codes = true)
    (po_Codes : PySem.W.plainOver K k_Codes = true)
    (sa_Codes : PySem.W.findIn K (.ref k_Codes) "__setattr__" = some (some (.builtin "object.__setattr__")))
    (mk_Codes : PySem.W.makesIn K k_Codes = true)
    (kc_Codes : PySem.W.keepIn K (.ref k_Codes) = true)
    (n_Codes_tries : PySem.W.findIn K (.ref k_Codes) "tries" = some none)
    (n_Codes_rest : PySem.W.findIn K (.ref k_Codes) "rest" = some none)
    (n_Codes_rows : PySem.W.findIn K (.ref k_Codes) "rows" = some none)
    (n_Codes_misses : PySem.W.findIn K (.ref k_Codes) "misses" = some none)
    (n_Codes_since : PySem.W.findIn K (.ref k_Codes) "since" = some none)
    (n_Codes_shut : PySem.W.findIn K (.ref k_Codes) "shut" = some none)
    (n_Codes_last : PySem.W.findIn K (.ref k_Codes) "last" = some none)
    (a0 : PySem.W.nsIn K mainGlobals "_law_cell" = some (some (.ref f0)))
    (l0 : K.lookup f0 = some ⟨oc0, od0, .func (PySem.W.fnOf "_law_cell" "_law_cell" (defArgs st_law_cell) (defBody st_law_cell) (defScope st_law_cell) .none kV0 dc0 pm0 an0 cd0 ct0), sl0⟩)
    (c0 : PySem.W.codeIn K cd0 "_law_cell" = true)
    (k0 : PySem.W.keepIn K (.ref f0) = true)
    (a1 : PySem.W.nsIn K mainGlobals "_law_drawn" = some (some (.ref f1)))
    (l1 : K.lookup f1 = some ⟨oc1, od1, .func (PySem.W.fnOf "_law_drawn" "_law_drawn" (defArgs st_law_drawn) (defBody st_law_drawn) (defScope st_law_drawn) .none kV1 dc1 pm1 an1 cd1 ct1), sl1⟩)
    (c1 : PySem.W.codeIn K cd1 "_law_drawn" = true)
    (k1 : PySem.W.keepIn K (.ref f1) = true)
    (a2 : PySem.W.findIn K (.ref k_Codes) "__init__" = some (some (.ref f2)))
    (i2 : PySem.W.isFn K (.ref f2) = true)
    (l2 : K.lookup f2 = some ⟨oc2, od2, .func (PySem.W.fnOf "__init__" "Codes.__init__" (defArgs st_Codes_init) (defBody st_Codes_init) (defScope st_Codes_init) .none kV2 dc2 pm2 an2 cd2 ct2), sl2⟩)
    (c2 : PySem.W.codeIn K cd2 "Codes.__init__" = true)
    (k2 : PySem.W.keepIn K (.ref f2) = true)
    (a3 : PySem.W.nsIn K mainGlobals "_law_codes" = some (some (.ref f3)))
    (l3 : K.lookup f3 = some ⟨oc3, od3, .func (PySem.W.fnOf "_law_codes" "_law_codes" (defArgs st_law_codes) (defBody st_law_codes) (defScope st_law_codes) .none kV3 dc3 pm3 an3 cd3 ct3), sl3⟩)
    (c3 : PySem.W.codeIn K cd3 "_law_codes" = true)
    (k3 : PySem.W.keepIn K (.ref f3) = true)
    (a4 : PySem.W.nsIn K mainGlobals "_law_wish" = some (some (.ref f4)))
    (l4 : K.lookup f4 = some ⟨oc4, od4, .func (PySem.W.fnOf "_law_wish" "_law_wish" (defArgs st_law_wish) (defBody st_law_wish) (defScope st_law_wish) .none kV4 dc4 pm4 an4 cd4 ct4), sl4⟩)
    (c4 : PySem.W.codeIn K cd4 "_law_wish" = true)
    (k4 : PySem.W.keepIn K (.ref f4) = true)
    (a5 : PySem.W.nsIn K mainGlobals "is_name" = some (some (.ref f5)))
    (l5 : K.lookup f5 = some ⟨oc5, od5, .func (PySem.W.fnOf "is_name" "is_name" (defArgs st_is_name) (defBody st_is_name) (defScope st_is_name) .none kV5 dc5 pm5 an5 cd5 ct5), sl5⟩)
    (c5 : PySem.W.codeIn K cd5 "is_name" = true)
    (k5 : PySem.W.keepIn K (.ref f5) = true)
    (a6 : PySem.W.nsIn K mainGlobals "is_code" = some (some (.ref f6)))
    (l6 : K.lookup f6 = some ⟨oc6, od6, .func (PySem.W.fnOf "is_code" "is_code" (defArgs st_is_code) (defBody st_is_code) (defScope st_is_code) .none kV6 dc6 pm6 an6 cd6 ct6), sl6⟩)
    (c6 : PySem.W.codeIn K cd6 "is_code" = true)
    (k6 : PySem.W.keepIn K (.ref f6) = true)
    (a7 : PySem.W.nsIn K mainGlobals "are_rights" = some (some (.ref f7)))
    (l7 : K.lookup f7 = some ⟨oc7, od7, .func (PySem.W.fnOf "are_rights" "are_rights" (defArgs st_are_rights) (defBody st_are_rights) (defScope st_are_rights) .none kV7 dc7 pm7 an7 cd7 ct7), sl7⟩)
    (c7 : PySem.W.codeIn K cd7 "are_rights" = true)
    (k7 : PySem.W.keepIn K (.ref f7) = true)
    (a8 : PySem.W.findIn K (.ref k_Codes) "who" = some (some (.ref f8)))
    (i8 : PySem.W.isFn K (.ref f8) = true)
    (l8 : K.lookup f8 = some ⟨oc8, od8, .func (PySem.W.fnOf "who" "Codes.who" (defArgs st_Codes_who) (defBody st_Codes_who) (defScope st_Codes_who) .none kV8 dc8 pm8 an8 cd8 ct8), sl8⟩)
    (c8 : PySem.W.codeIn K cd8 "Codes.who" = true)
    (k8 : PySem.W.keepIn K (.ref f8) = true)
    (a9 : PySem.W.findIn K (.ref k_Codes) "give" = some (some (.ref f9)))
    (i9 : PySem.W.isFn K (.ref f9) = true)
    (l9 : K.lookup f9 = some ⟨oc9, od9, .func (PySem.W.fnOf "give" "Codes.give" (defArgs st_Codes_give) (defBody st_Codes_give) (defScope st_Codes_give) .none kV9 dc9 pm9 an9 cd9 ct9), sl9⟩)
    (c9 : PySem.W.codeIn K cd9 "Codes.give" = true)
    (k9 : PySem.W.keepIn K (.ref f9) = true)
    (a10 : PySem.W.findIn K (.ref k_Codes) "take" = some (some (.ref f10)))
    (i10 : PySem.W.isFn K (.ref f10) = true)
    (l10 : K.lookup f10 = some ⟨oc10, od10, .func (PySem.W.fnOf "take" "Codes.take" (defArgs st_Codes_take) (defBody st_Codes_take) (defScope st_Codes_take) .none kV10 dc10 pm10 an10 cd10 ct10), sl10⟩)
    (c10 : PySem.W.codeIn K cd10 "Codes.take" = true)
    (k10 : PySem.W.keepIn K (.ref f10) = true)
    (a11 : PySem.W.findIn K (.ref k_Codes) "locked_at" = some (some (.ref f11)))
    (i11 : PySem.W.isFn K (.ref f11) = true)
    (l11 : K.lookup f11 = some ⟨oc11, od11, .func (PySem.W.fnOf "locked_at" "Codes.locked_at" (defArgs st_Codes_locked_at) (defBody st_Codes_locked_at) (defScope st_Codes_locked_at) .none kV11 dc11 pm11 an11 cd11 ct11), sl11⟩)
    (c11 : PySem.W.codeIn K cd11 "Codes.locked_at" = true)
    (k11 : PySem.W.keepIn K (.ref f11) = true)
    (a12 : PySem.W.findIn K (.ref k_Codes) "ask" = some (some (.ref f12)))
    (i12 : PySem.W.isFn K (.ref f12) = true)
    (l12 : K.lookup f12 = some ⟨oc12, od12, .func (PySem.W.fnOf "ask" "Codes.ask" (defArgs st_Codes_ask) (defBody st_Codes_ask) (defScope st_Codes_ask) .none kV12 dc12 pm12 an12 cd12 ct12), sl12⟩)
    (c12 : PySem.W.codeIn K cd12 "Codes.ask" = true)
    (k12 : PySem.W.keepIn K (.ref f12) = true)
    (a13 : PySem.W.nsIn K mainGlobals "_law_word" = some (some (.ref f13)))
    (l13 : K.lookup f13 = some ⟨oc13, od13, .func (PySem.W.fnOf "_law_word" "_law_word" (defArgs st_law_word) (defBody st_law_word) (defScope st_law_word) .none kV13 dc13 pm13 an13 cd13 ct13), sl13⟩)
    (c13 : PySem.W.codeIn K cd13 "_law_word" = true)
    (k13 : PySem.W.keepIn K (.ref f13) = true)
    (a14 : PySem.W.nsIn K mainGlobals "_law_told" = some (some (.ref f14)))
    (l14 : K.lookup f14 = some ⟨oc14, od14, .func (PySem.W.fnOf "_law_told" "_law_told" (defArgs st_law_told) (defBody st_law_told) (defScope st_law_told) .none kV14 dc14 pm14 an14 cd14 ct14), sl14⟩)
    (c14 : PySem.W.codeIn K cd14 "_law_told" = true)
    (k14 : PySem.W.keepIn K (.ref f14) = true)
    (a15 : PySem.W.nsIn K mainGlobals "_law_asks" = some (some (.ref f15)))
    (l15 : K.lookup f15 = some ⟨oc15, od15, .func (PySem.W.fnOf "_law_asks" "_law_asks" (defArgs st_law_asks) (defBody st_law_asks) (defScope st_law_asks) .none kV15 dc15 pm15 an15 cd15 ct15), sl15⟩)
    (c15 : PySem.W.codeIn K cd15 "_law_asks" = true)
    (k15 : PySem.W.keepIn K (.ref f15) = true)
    (a16 : PySem.W.nsIn K mainGlobals "_law_answer" = some (some (.ref f16)))
    (l16 : K.lookup f16 = some ⟨oc16, od16, .func (PySem.W.fnOf "_law_answer" "_law_answer" (defArgs st_law_answer) (defBody st_law_answer) (defScope st_law_answer) .none kV16 dc16 pm16 an16 cd16 ct16), sl16⟩)
    (c16 : PySem.W.codeIn K cd16 "_law_answer" = true)
    (k16 : PySem.W.keepIn K (.ref f16) = true)
    (a17 : PySem.W.findIn K (.ref k_Codes) "names" = some (some (.ref f17)))
    (i17 : PySem.W.isFn K (.ref f17) = true)
    (l17 : K.lookup f17 = some ⟨oc17, od17, .func (PySem.W.fnOf "names" "Codes.names" (defArgs st_Codes_names) (defBody st_Codes_names) (defScope st_Codes_names) .none kV17 dc17 pm17 an17 cd17 ct17), sl17⟩)
    (c17 : PySem.W.codeIn K cd17 "Codes.names" = true)
    (k17 : PySem.W.keepIn K (.ref f17) = true)
    (a18 : PySem.W.nsIn K mainGlobals "law" = some (some (.ref f18)))
    (l18 : K.lookup f18 = some ⟨oc18, od18, .func (PySem.W.fnOf "law" "law" (defArgs st_law) (defBody st_law) (defScope st_law) .none kV18 dc18 pm18 an18 cd18 ct18), sl18⟩)
    (c18 : PySem.W.codeIn K cd18 "law" = true)
    (k18 : PySem.W.keepIn K (.ref f18) = true)
    (gv0 : PySem.W.nsIn K mainGlobals "LETTERS" = some (some (.str "abcdefghijklmnopqrstuvwxyz" t0)))
    (gv1 : PySem.W.nsIn K mainGlobals "FIGURES" = some (some (.str "0123456789" t1)))
    (gv2 : PySem.W.nsIn K mainGlobals "RIGHTS" = some (some (.ref ga2)))
    (hv2 : K.lookup ga2 = some ⟨.type "tuple", none, .seq #[(.str "lift" t2), (.str "set" t3)] gn2, gsl2⟩)
    (z_len : PySem.W.nsIn K mainGlobals "len" = some none)
    (z_isinstance : PySem.W.nsIn K mainGlobals "isinstance" = some none)
    (z_int : PySem.W.nsIn K mainGlobals "int" = some none)
    (z_bool : PySem.W.nsIn K mainGlobals "bool" = some none)
    (z_str : PySem.W.nsIn K mainGlobals "str" = some none)
    (z_tuple : PySem.W.nsIn K mainGlobals "tuple" = some none)
    (z_list : PySem.W.nsIn K mainGlobals "list" = some none)
    (z_set : PySem.W.nsIn K mainGlobals "set" = some none)
    (z_dict : PySem.W.nsIn K mainGlobals "dict" = some none)
    (z_all : PySem.W.nsIn K mainGlobals "all" = some none)
    (z_zip : PySem.W.nsIn K mainGlobals "zip" = some none)
    (z_enumerate : PySem.W.nsIn K mainGlobals "enumerate" = some none)
    (z_range : PySem.W.nsIn K mainGlobals "range" = some none)
    (z_sorted : PySem.W.nsIn K mainGlobals "sorted" = some none)
    (z_min : PySem.W.nsIn K mainGlobals "min" = some none)
    (z_max : PySem.W.nsIn K mainGlobals "max" = some none)
    (z_sum : PySem.W.nsIn K mainGlobals "sum" = some none) :
    ∃ fd : FuncData, (∀ (s : Shared) (v : Value), BindsTo s fd ⟨[v], []⟩ [("script", v)]) ∧ ∀ base : Heap, K.In base → base.Ns mainGlobals mg → FnOk l.prog w K mg base (L2.CX l.prog w) 4 fa fd ["script"] (spM K (clOf K) 1 m_law) := by
  have e := hfa.symm.trans (PySem.W.mg_of X G a18)
  cases e
  have B : Bt mg := ⟨PySem.W.mg_none_of X G z_len, PySem.W.mg_none_of X G z_isinstance, PySem.W.mg_none_of X G z_int, PySem.W.mg_none_of X G z_bool, PySem.W.mg_none_of X G z_str, PySem.W.mg_none_of X G z_tuple, PySem.W.mg_none_of X G z_list, PySem.W.mg_none_of X G z_set, PySem.W.mg_none_of X G z_dict, PySem.W.mg_none_of X G z_all, PySem.W.mg_none_of X G z_zip, PySem.W.mg_none_of X G z_enumerate, PySem.W.mg_none_of X G z_range, PySem.W.mg_none_of X G z_sorted, PySem.W.mg_none_of X G z_min, PySem.W.mg_none_of X G z_max, PySem.W.mg_none_of X G z_sum⟩
  have ex0 : clOf K "BoltError" = x0 := clOf_eq gx0
  have ex1 : clOf K "NoTime" = x1 := clOf_eq gx1
  have ex2 : clOf K "NoName" = x2 := clOf_eq gx2
  have ex3 : clOf K "NoCode" = x3 := clOf_eq gx3
  have ex4 : clOf K "NoRight" = x4 := clOf_eq gx4
  have ex5 : clOf K "Taken" = x5 := clOf_eq gx5
  have ex6 : clOf K "Wrong" = x6 := clOf_eq gx6
  have ex7 : clOf K "Locked" = x7 := clOf_eq gx7
  have ek_Codes : clOf K "Codes" = k_Codes := clOf_eq ak_Codes
  have X0 : XcOk K mg (clOf K) "BoltError" := ⟨by rw [ex0]; exact PySem.W.mg_of X G gx0, by rw [ex0]; exact xq0, by rw [ex0]; exact xk0, by rw [ex0]; exact xb0, by rw [ex0]; exact xt0⟩
  have X1 : XcOk K mg (clOf K) "NoTime" := ⟨by rw [ex1]; exact PySem.W.mg_of X G gx1, by rw [ex1]; exact xq1, by rw [ex1]; exact xk1, by rw [ex1]; exact xb1, by rw [ex1]; exact xt1⟩
  have X2 : XcOk K mg (clOf K) "NoName" := ⟨by rw [ex2]; exact PySem.W.mg_of X G gx2, by rw [ex2]; exact xq2, by rw [ex2]; exact xk2, by rw [ex2]; exact xb2, by rw [ex2]; exact xt2⟩
  have X3 : XcOk K mg (clOf K) "NoCode" := ⟨by rw [ex3]; exact PySem.W.mg_of X G gx3, by rw [ex3]; exact xq3, by rw [ex3]; exact xk3, by rw [ex3]; exact xb3, by rw [ex3]; exact xt3⟩
  have X4 : XcOk K mg (clOf K) "NoRight" := ⟨by rw [ex4]; exact PySem.W.mg_of X G gx4, by rw [ex4]; exact xq4, by rw [ex4]; exact xk4, by rw [ex4]; exact xb4, by rw [ex4]; exact xt4⟩
  have X5 : XcOk K mg (clOf K) "Taken" := ⟨by rw [ex5]; exact PySem.W.mg_of X G gx5, by rw [ex5]; exact xq5, by rw [ex5]; exact xk5, by rw [ex5]; exact xb5, by rw [ex5]; exact xt5⟩
  have X6 : XcOk K mg (clOf K) "Wrong" := ⟨by rw [ex6]; exact PySem.W.mg_of X G gx6, by rw [ex6]; exact xq6, by rw [ex6]; exact xk6, by rw [ex6]; exact xb6, by rw [ex6]; exact xt6⟩
  have X7 : XcOk K mg (clOf K) "Locked" := ⟨by rw [ex7]; exact PySem.W.mg_of X G gx7, by rw [ex7]; exact xq7, by rw [ex7]; exact xk7, by rw [ex7]; exact xb7, by rw [ex7]; exact xt7⟩
  have EC : ∀ c ∈ XS, ExcC K (clOf K c) := by
    unfold XS
    exact (all2 (excC_mk ex1 ⟨xg1, xh1, xb1, xd1, xa1, xn, xtk, xm1⟩) (all2 (excC_mk ex2 ⟨xg2, xh2, xb2, xd2, xa2, xn, xtk, xm2⟩) (all2 (excC_mk ex3 ⟨xg3, xh3, xb3, xd3, xa3, xn, xtk, xm3⟩) (all2 (excC_mk ex4 ⟨xg4, xh4, xb4, xd4, xa4, xn, xtk, xm4⟩) (all2 (excC_mk ex5 ⟨xg5, xh5, xb5, xd5, xa5, xn, xtk, xm5⟩) (all2 (excC_mk ex6 ⟨xg6, xh6, xb6, xd6, xa6, xn, xtk, xm6⟩) (all2 (excC_mk ex7 ⟨xg7, xh7, xb7, xd7, xa7, xn, xtk, xm7⟩) all0)))))))
  have ISA : ∀ c ∈ XS, ∀ d ∈ YS, PySem.W.kitOne K (.ref (clOf K c)) (.ref (clOf K d)) = some (isaX c d) := by
    unfold XS YS
    exact (all2 (all2 (isa_mk ex1 ex5 xc5 xt5 s1_5 s5_5 (by decide +kernel)) (all2 (isa_mk ex1 ex4 xc4 xt4 s1_4 s4_4 (by decide +kernel)) (all2 (isa_mk ex1 ex3 xc3 xt3 s1_3 s3_3 (by decide +kernel)) (all2 (isa_mk ex1 ex2 xc2 xt2 s1_2 s2_2 (by decide +kernel)) (all2 (isa_mk ex1 ex6 xc6 xt6 s1_6 s6_6 (by decide +kernel)) (all2 (isa_mk ex1 ex7 xc7 xt7 s1_7 s7_7 (by decide +kernel)) (all2 (isa_mk ex1 ex1 xc1 xt1 s1_1 s1_1 (by decide +kernel)) all0))))))) (all2 (all2 (isa_mk ex2 ex5 xc5 xt5 s2_5 s5_5 (by decide +kernel)) (all2 (isa_mk ex2 ex4 xc4 xt4 s2_4 s4_4 (by decide +kernel)) (all2 (isa_mk ex2 ex3 xc3 xt3 s2_3 s3_3 (by decide +kernel)) (all2 (isa_mk ex2 ex2 xc2 xt2 s2_2 s2_2 (by decide +kernel)) (all2 (isa_mk ex2 ex6 xc6 xt6 s2_6 s6_6 (by decide +kernel)) (all2 (isa_mk ex2 ex7 xc7 xt7 s2_7 s7_7 (by decide +kernel)) (all2 (isa_mk ex2 ex1 xc1 xt1 s2_1 s1_1 (by decide +kernel)) all0))))))) (all2 (all2 (isa_mk ex3 ex5 xc5 xt5 s3_5 s5_5 (by decide +kernel)) (all2 (isa_mk ex3 ex4 xc4 xt4 s3_4 s4_4 (by decide +kernel)) (all2 (isa_mk ex3 ex3 xc3 xt3 s3_3 s3_3 (by decide +kernel)) (all2 (isa_mk ex3 ex2 xc2 xt2 s3_2 s2_2 (by decide +kernel)) (all2 (isa_mk ex3 ex6 xc6 xt6 s3_6 s6_6 (by decide +kernel)) (all2 (isa_mk ex3 ex7 xc7 xt7 s3_7 s7_7 (by decide +kernel)) (all2 (isa_mk ex3 ex1 xc1 xt1 s3_1 s1_1 (by decide +kernel)) all0))))))) (all2 (all2 (isa_mk ex4 ex5 xc5 xt5 s4_5 s5_5 (by decide +kernel)) (all2 (isa_mk ex4 ex4 xc4 xt4 s4_4 s4_4 (by decide +kernel)) (all2 (isa_mk ex4 ex3 xc3 xt3 s4_3 s3_3 (by decide +kernel)) (all2 (isa_mk ex4 ex2 xc2 xt2 s4_2 s2_2 (by decide +kernel)) (all2 (isa_mk ex4 ex6 xc6 xt6 s4_6 s6_6 (by decide +kernel)) (all2 (isa_mk ex4 ex7 xc7 xt7 s4_7 s7_7 (by decide +kernel)) (all2 (isa_mk ex4 ex1 xc1 xt1 s4_1 s1_1 (by decide +kernel)) all0))))))) (all2 (all2 (isa_mk ex5 ex5 xc5 xt5 s5_5 s5_5 (by decide +kernel)) (all2 (isa_mk ex5 ex4 xc4 xt4 s5_4 s4_4 (by decide +kernel)) (all2 (isa_mk ex5 ex3 xc3 xt3 s5_3 s3_3 (by decide +kernel)) (all2 (isa_mk ex5 ex2 xc2 xt2 s5_2 s2_2 (by decide +kernel)) (all2 (isa_mk ex5 ex6 xc6 xt6 s5_6 s6_6 (by decide +kernel)) (all2 (isa_mk ex5 ex7 xc7 xt7 s5_7 s7_7 (by decide +kernel)) (all2 (isa_mk ex5 ex1 xc1 xt1 s5_1 s1_1 (by decide +kernel)) all0))))))) (all2 (all2 (isa_mk ex6 ex5 xc5 xt5 s6_5 s5_5 (by decide +kernel)) (all2 (isa_mk ex6 ex4 xc4 xt4 s6_4 s4_4 (by decide +kernel)) (all2 (isa_mk ex6 ex3 xc3 xt3 s6_3 s3_3 (by decide +kernel)) (all2 (isa_mk ex6 ex2 xc2 xt2 s6_2 s2_2 (by decide +kernel)) (all2 (isa_mk ex6 ex6 xc6 xt6 s6_6 s6_6 (by decide +kernel)) (all2 (isa_mk ex6 ex7 xc7 xt7 s6_7 s7_7 (by decide +kernel)) (all2 (isa_mk ex6 ex1 xc1 xt1 s6_1 s1_1 (by decide +kernel)) all0))))))) (all2 (all2 (isa_mk ex7 ex5 xc5 xt5 s7_5 s5_5 (by decide +kernel)) (all2 (isa_mk ex7 ex4 xc4 xt4 s7_4 s4_4 (by decide +kernel)) (all2 (isa_mk ex7 ex3 xc3 xt3 s7_3 s3_3 (by decide +kernel)) (all2 (isa_mk ex7 ex2 xc2 xt2 s7_2 s2_2 (by decide +kernel)) (all2 (isa_mk ex7 ex6 xc6 xt6 s7_6 s6_6 (by decide +kernel)) (all2 (isa_mk ex7 ex7 xc7 xt7 s7_7 s7_7 (by decide +kernel)) (all2 (isa_mk ex7 ex1 xc1 xt1 s7_1 s1_1 (by decide +kernel)) all0))))))) all0)))))))
  have ISV : ∀ c ∈ XS, PySem.W.kitOne K (.ref (clOf K c)) (.type "ValueError") = some true := by
    unfold XS
    exact (all2 (isv_mk ex1 sv1) (all2 (isv_mk ex2 sv2) (all2 (isv_mk ex3 sv3) (all2 (isv_mk ex4 sv4) (all2 (isv_mk ex5 sv5) (all2 (isv_mk ex6 sv6) (all2 (isv_mk ex7 sv7) all0)))))))
  have EXM : ∀ c ∈ XS, PySem.W.exmOne K (.ref (clOf K c)) (.ref (clOf K "BoltError")) = some true := by
    unfold XS
    exact (all2 (exm_mk ex1 ex0 xb0 xc0 xt0 s1_0) (all2 (exm_mk ex2 ex0 xb0 xc0 xt0 s2_0) (all2 (exm_mk ex3 ex0 xb0 xc0 xt0 s3_0) (all2 (exm_mk ex4 ex0 xb0 xc0 xt0 s4_0) (all2 (exm_mk ex5 ex0 xb0 xc0 xt0 s5_0) (all2 (exm_mk ex6 ex0 xb0 xc0 xt0 s6_0) (all2 (exm_mk ex7 ex0 xb0 xc0 xt0 s7_0) all0)))))))
  have NK_Codes : ∀ f ∈ (["tries", "rest", "rows", "misses", "since", "shut", "last"] : List Str), NoAttr K (clOf K "Codes") f := by
    intro f hf
    rw [ek_Codes]
    simp only [List.mem_cons, List.not_mem_nil, or_false] at hf
    rcases hf with rfl | rfl | rfl | rfl | rfl | rfl | rfl
    · exact n_Codes_tries
    · exact n_Codes_rest
    · exact n_Codes_rows
    · exact n_Codes_misses
    · exact n_Codes_since
    · exact n_Codes_shut
    · exact n_Codes_last
  have KK_Codes : ClsOk K (clOf K) "Codes" ["tries", "rest", "rows", "misses", "since", "shut", "last"] := ⟨by rw [ek_Codes]; exact ⟨pg_Codes, hd_Codes, po_Codes, sa_Codes⟩, NK_Codes⟩
  have C : Ct K mg (clOf K) := ⟨⟨_, PySem.W.mg_of X G gv0⟩, ⟨_, PySem.W.mg_of X G gv1⟩, ⟨_, PySem.W.mg_of X G gv2, kTup (vs := [(.str "lift"), (.str "set")]) hv2 (by simp) (.cons ⟨_, rfl⟩ (.cons ⟨_, rfl⟩ .nil)) fun w => (.cons (.str _) (.cons (.str _) .nil))⟩, X0, X1, X2, X3, X4, X5, X6, X7, EC, ISA, ISV, EXM, PySem.W.mg_none_of X G z_VE, KK_Codes, trivial⟩
  have F0 := fun_mk (st := st_law_cell) l0 c0 k0
  have b0 := F0.binds (ps := ["script", "k"]) fun _ _ _ _ _ _ us hl => match us, hl with | [_, _], _ => rfl
  have F1 := fun_mk (st := st_law_drawn) l1 c1 k1
  have b1 := F1.binds (ps := ["script", "k", "many"]) fun _ _ _ _ _ _ us hl => match us, hl with | [_, _, _], _ => rfl
  have F2 := fun_mk (st := st_Codes_init) l2 c2 k2
  have b2 := F2.binds (ps := ["self", "tries", "rest"]) fun _ _ _ _ _ _ us hl => match us, hl with | [_, _, _], _ => rfl
  have F3 := fun_mk (st := st_law_codes) l3 c3 k3
  have b3 := F3.binds (ps := ["tries", "rest"]) fun _ _ _ _ _ _ us hl => match us, hl with | [_, _], _ => rfl
  have F4 := fun_mk (st := st_law_wish) l4 c4 k4
  have b4 := F4.binds (ps := ["script", "at", "own"]) fun _ _ _ _ _ _ us hl => match us, hl with | [_, _, _], _ => rfl
  have F5 := fun_mk (st := st_is_name) l5 c5 k5
  have b5 := F5.binds (ps := ["thing"]) fun _ _ _ _ _ _ us hl => match us, hl with | [_], _ => rfl
  have F6 := fun_mk (st := st_is_code) l6 c6 k6
  have b6 := F6.binds (ps := ["thing"]) fun _ _ _ _ _ _ us hl => match us, hl with | [_], _ => rfl
  have F7 := fun_mk (st := st_are_rights) l7 c7 k7
  have b7 := F7.binds (ps := ["thing"]) fun _ _ _ _ _ _ us hl => match us, hl with | [_], _ => rfl
  have F8 := fun_mk (st := st_Codes_who) l8 c8 k8
  have b8 := F8.binds (ps := ["self", "code"]) fun _ _ _ _ _ _ us hl => match us, hl with | [_, _], _ => rfl
  have F9 := fun_mk (st := st_Codes_give) l9 c9 k9
  have b9 := F9.binds (ps := ["self", "name", "code", "rights"]) fun _ _ _ _ _ _ us hl => match us, hl with | [_, _, _, _], _ => rfl
  have F10 := fun_mk (st := st_Codes_take) l10 c10 k10
  have b10 := F10.binds (ps := ["self", "name"]) fun _ _ _ _ _ _ us hl => match us, hl with | [_, _], _ => rfl
  have F11 := fun_mk (st := st_Codes_locked_at) l11 c11 k11
  have b11 := F11.binds (ps := ["self", "moment"]) fun _ _ _ _ _ _ us hl => match us, hl with | [_, _], _ => rfl
  have F12 := fun_mk (st := st_Codes_ask) l12 c12 k12
  have b12 := F12.binds (ps := ["self", "code", "moment", "right"]) fun _ _ _ _ _ _ us hl => match us, hl with | [_, _, _, _], _ => rfl
  have F13 := fun_mk (st := st_law_word) l13 c13 k13
  have b13 := F13.binds (ps := ["e"]) fun _ _ _ _ _ _ us hl => match us, hl with | [_], _ => rfl
  have F14 := fun_mk (st := st_law_told) l14 c14 k14
  have b14 := F14.binds (ps := ["codes", "step"]) fun _ _ _ _ _ _ us hl => match us, hl with | [_, _], _ => rfl
  have F15 := fun_mk (st := st_law_asks) l15 c15 k15
  have b15 := F15.binds (ps := ["own", "code", "moment", "right"]) fun _ _ _ _ _ _ us hl => match us, hl with | [_, _, _, _], _ => rfl
  have F16 := fun_mk (st := st_law_answer) l16 c16 k16
  have b16 := F16.binds (ps := ["own", "step"]) fun _ _ _ _ _ _ us hl => match us, hl with | [_, _], _ => rfl
  have F17 := fun_mk (st := st_Codes_names) l17 c17 k17
  have b17 := F17.binds (ps := ["self"]) fun _ _ _ _ _ _ us hl => match us, hl with | [_], _ => rfl
  have F18 := fun_mk (st := st_law) l18 c18 k18
  have b18 := F18.binds (ps := ["script"]) fun _ _ _ _ _ _ us hl => match us, hl with | [_], _ => rfl
  refine ⟨PySem.W.fnOf "law" "law" (defArgs st_law) (defBody st_law) (defScope st_law) .none kV18 dc18 pm18 an18 cd18 ct18, fun s v => .of_eq rfl, fun base _ _ => ?_⟩
  have d_law_cell := ok_law_cell (P := l.prog) (w := w) (base := base) (cl := clOf K) F0 b0 (PySem.W.mg_of X G a0) B C
  have d_law_drawn := ok_law_drawn (P := l.prog) (w := w) (base := base) (cl := clOf K) F1 b1 (PySem.W.mg_of X G a1) B C d_law_cell
  have d_Codes_init := ok_Codes_init (P := l.prog) (w := w) (base := base) (cl := clOf K) F2 b2 (by rw [ek_Codes]; exact ⟨mk_Codes, a2, i2, kc_Codes⟩) (by rw [ek_Codes]; exact PySem.W.mg_of X G ak_Codes) B C
  have d_law_codes := ok_law_codes (P := l.prog) (w := w) (base := base) (cl := clOf K) F3 b3 (PySem.W.mg_of X G a3) B C
  have d_law_wish := ok_law_wish (P := l.prog) (w := w) (base := base) (cl := clOf K) F4 b4 (PySem.W.mg_of X G a4) B C d_law_drawn
  have d_is_name := ok_is_name (P := l.prog) (w := w) (base := base) (cl := clOf K) F5 b5 (PySem.W.mg_of X G a5) B C
  have d_is_code := ok_is_code (P := l.prog) (w := w) (base := base) (cl := clOf K) F6 b6 (PySem.W.mg_of X G a6) B C
  have d_are_rights := ok_are_rights (P := l.prog) (w := w) (base := base) (cl := clOf K) F7 b7 (PySem.W.mg_of X G a7) B C
  have d_Codes_who := ok_Codes_who (P := l.prog) (w := w) (base := base) (cl := clOf K) F8 b8 (by rw [ek_Codes]; exact ⟨a8, i8, k8⟩) B C
  have d_Codes_give := ok_Codes_give (P := l.prog) (w := w) (base := base) (cl := clOf K) F9 b9 (by rw [ek_Codes]; exact ⟨a9, i9, k9⟩) B C d_is_name d_is_code d_are_rights d_Codes_who
  have d_Codes_take := ok_Codes_take (P := l.prog) (w := w) (base := base) (cl := clOf K) F10 b10 (by rw [ek_Codes]; exact ⟨a10, i10, k10⟩) B C
  have d_Codes_locked_at := ok_Codes_locked_at (P := l.prog) (w := w) (base := base) (cl := clOf K) F11 b11 (by rw [ek_Codes]; exact ⟨a11, i11, k11⟩) B C
  have d_Codes_ask := ok_Codes_ask (P := l.prog) (w := w) (base := base) (cl := clOf K) F12 b12 (by rw [ek_Codes]; exact ⟨a12, i12, k12⟩) B C d_Codes_locked_at d_Codes_who
  have d_law_word := ok_law_word (P := l.prog) (w := w) (base := base) (cl := clOf K) F13 b13 (PySem.W.mg_of X G a13) B C ev_law_word
  have d_law_told := ok_law_told (P := l.prog) (w := w) (base := base) (cl := clOf K) F14 b14 (PySem.W.mg_of X G a14) B C d_Codes_give d_Codes_take d_Codes_ask d_law_word
  have d_law_asks := ok_law_asks (P := l.prog) (w := w) (base := base) (cl := clOf K) F15 b15 (PySem.W.mg_of X G a15) B C
  have d_law_answer := ok_law_answer (P := l.prog) (w := w) (base := base) (cl := clOf K) F16 b16 (PySem.W.mg_of X G a16) B C d_law_asks
  have d_Codes_names := ok_Codes_names (P := l.prog) (w := w) (base := base) (cl := clOf K) F17 b17 (by rw [ek_Codes]; exact ⟨a17, i17, k17⟩) B C
  exact fn_law F18 B C d_law_drawn d_Codes_init d_law_codes d_law_wish d_law_told d_law_answer d_Codes_names d_Codes_who d_Codes_locked_at
end BW
open PySem PySem.W PyProof.Rows
set_option maxRecDepth 100000 in
set_option maxHeartbeats 0 in
theorem PySem.Challenge.cw_boltwatch_k40_codes_holds : PySem.Challenge.rw_boltwatch_k40_codes.Holds := by
  w_on; o_law; k_head; (case hw => w_witness2)
  k_fill
  refine BW.walk_law (l := PySem.Challenge.rw_boltwatch_k40_codes) (k := 4) (m := BW.m_law) BW.lawOk rfl rfl ⟨rfl, by decide, by decide⟩ (fun w h Y => PySem.W.kIn_of Y) ?F
  case F =>
    intro w mg fa h KX G hmg
    refine' BW.all_mk KX G hmg ?gx0 ?xq0 ?xk0 ?xb0 ?xt0 ?xc0 ?xg0 ?xh0 ?xd0 ?xa0 ?xm0 ?gx1 ?xq1 ?xk1 ?xb1 ?xt1 ?xc1 ?xg1 ?xh1 ?xd1 ?xa1 ?xm1 ?gx2 ?xq2 ?xk2 ?xb2 ?xt2 ?xc2 ?xg2 ?xh2 ?xd2 ?xa2 ?xm2 ?gx3 ?xq3 ?xk3 ?xb3 ?xt3 ?xc3 ?xg3 ?xh3 ?xd3 ?xa3 ?xm3 ?gx4 ?xq4 ?xk4 ?xb4 ?xt4 ?xc4 ?xg4 ?xh4 ?xd4 ?xa4 ?xm4 ?gx5 ?xq5 ?xk5 ?xb5 ?xt5 ?xc5 ?xg5 ?xh5 ?xd5 ?xa5 ?xm5 ?gx6 ?xq6 ?xk6 ?xb6 ?xt6 ?xc6 ?xg6 ?xh6 ?xd6 ?xa6 ?xm6 ?gx7 ?xq7 ?xk7 ?xb7 ?xt7 ?xc7 ?xg7 ?xh7 ?xd7 ?xa7 ?xm7 ?xn ?xtk ?z_VE ?sv1 ?s1_0 ?s1_1 ?s1_2 ?s1_3 ?s1_4 ?s1_5 ?s1_6 ?s1_7 ?sv2 ?s2_0 ?s2_1 ?s2_2 ?s2_3 ?s2_4 ?s2_5 ?s2_6 ?s2_7 ?sv3 ?s3_0 ?s3_1 ?s3_2 ?s3_3 ?s3_4 ?s3_5 ?s3_6 ?s3_7 ?sv4 ?s4_0 ?s4_1 ?s4_2 ?s4_3 ?s4_4 ?s4_5 ?s4_6 ?s4_7 ?sv5 ?s5_0 ?s5_1 ?s5_2 ?s5_3 ?s5_4 ?s5_5 ?s5_6 ?s5_7 ?sv6 ?s6_0 ?s6_1 ?s6_2 ?s6_3 ?s6_4 ?s6_5 ?s6_6 ?s6_7 ?sv7 ?s7_0 ?s7_1 ?s7_2 ?s7_3 ?s7_4 ?s7_5 ?s7_6 ?s7_7 ?ak_Codes ?pg_Codes ?hd_Codes ?po_Codes ?sa_Codes ?mk_Codes ?kc_Codes ?n_Codes_tries ?n_Codes_rest ?n_Codes_rows ?n_Codes_misses ?n_Codes_since ?n_Codes_shut ?n_Codes_last ?a0 ?l0 ?c0 ?k0 ?a1 ?l1 ?c1 ?k1 ?a2 ?i2 ?l2 ?c2 ?k2 ?a3 ?l3 ?c3 ?k3 ?a4 ?l4 ?c4 ?k4 ?a5 ?l5 ?c5 ?k5 ?a6 ?l6 ?c6 ?k6 ?a7 ?l7 ?c7 ?k7 ?a8 ?i8 ?l8 ?c8 ?k8 ?a9 ?i9 ?l9 ?c9 ?k9 ?a10 ?i10 ?l10 ?c10 ?k10 ?a11 ?i11 ?l11 ?c11 ?k11 ?a12 ?i12 ?l12 ?c12 ?k12 ?a13 ?l13 ?c13 ?k13 ?a14 ?l14 ?c14 ?k14 ?a15 ?l15 ?c15 ?k15 ?a16 ?l16 ?c16 ?k16 ?a17 ?i17 ?l17 ?c17 ?k17 ?a18 ?l18 ?c18 ?k18 ?gv0 ?gv1 ?gv2 ?hv2 ?z_len ?z_isinstance ?z_int ?z_bool ?z_str ?z_tuple ?z_list ?z_set ?z_dict ?z_all ?z_zip ?z_enumerate ?z_range ?z_sorted ?z_min ?z_max ?z_sum
    (case gx0 => k_is)
    (case xq0 => k_exc)
    (case xk0 => k_is)
    (case xb0 => k_is)
    (case xt0 => k_is)
    (case xc0 => k_is)
    (case xg0 => k_is)
    (case xh0 => k_is)
    (case xd0 => k_is)
    (case xa0 => k_is)
    (case xm0 => k_is)
    (case gx1 => k_is)
    (case xq1 => k_exc)
    (case xk1 => k_is)
    (case xb1 => k_is)
    (case xt1 => k_is)
    (case xc1 => k_is)
    (case xg1 => k_is)
    (case xh1 => k_is)
    (case xd1 => k_is)
    (case xa1 => k_is)
    (case xm1 => k_is)
    (case gx2 => k_is)
    (case xq2 => k_exc)
    (case xk2 => k_is)
    (case xb2 => k_is)
    (case xt2 => k_is)
    (case xc2 => k_is)
    (case xg2 => k_is)
    (case xh2 => k_is)
    (case xd2 => k_is)
    (case xa2 => k_is)
    (case xm2 => k_is)
    (case gx3 => k_is)
    (case xq3 => k_exc)
    (case xk3 => k_is)
    (case xb3 => k_is)
    (case xt3 => k_is)
    (case xc3 => k_is)
    (case xg3 => k_is)
    (case xh3 => k_is)
    (case xd3 => k_is)
    (case xa3 => k_is)
    (case xm3 => k_is)
    (case gx4 => k_is)
    (case xq4 => k_exc)
    (case xk4 => k_is)
    (case xb4 => k_is)
    (case xt4 => k_is)
    (case xc4 => k_is)
    (case xg4 => k_is)
    (case xh4 => k_is)
    (case xd4 => k_is)
    (case xa4 => k_is)
    (case xm4 => k_is)
    (case gx5 => k_is)
    (case xq5 => k_exc)
    (case xk5 => k_is)
    (case xb5 => k_is)
    (case xt5 => k_is)
    (case xc5 => k_is)
    (case xg5 => k_is)
    (case xh5 => k_is)
    (case xd5 => k_is)
    (case xa5 => k_is)
    (case xm5 => k_is)
    (case gx6 => k_is)
    (case xq6 => k_exc)
    (case xk6 => k_is)
    (case xb6 => k_is)
    (case xt6 => k_is)
    (case xc6 => k_is)
    (case xg6 => k_is)
    (case xh6 => k_is)
    (case xd6 => k_is)
    (case xa6 => k_is)
    (case xm6 => k_is)
    (case gx7 => k_is)
    (case xq7 => k_exc)
    (case xk7 => k_is)
    (case xb7 => k_is)
    (case xt7 => k_is)
    (case xc7 => k_is)
    (case xg7 => k_is)
    (case xh7 => k_is)
    (case xd7 => k_is)
    (case xa7 => k_is)
    (case xm7 => k_is)
    (case xn => k_is)
    (case xtk => k_is)
    (case z_VE => k_is)
    (case sv1 => k_is)
    (case s1_0 => first | rfl | k_is)
    (case s1_1 => first | rfl | k_is)
    (case s1_2 => first | rfl | k_is)
    (case s1_3 => first | rfl | k_is)
    (case s1_4 => first | rfl | k_is)
    (case s1_5 => first | rfl | k_is)
    (case s1_6 => first | rfl | k_is)
    (case s1_7 => first | rfl | k_is)
    (case sv2 => k_is)
    (case s2_0 => first | rfl | k_is)
    (case s2_1 => first | rfl | k_is)
    (case s2_2 => first | rfl | k_is)
    (case s2_3 => first | rfl | k_is)
    (case s2_4 => first | rfl | k_is)
    (case s2_5 => first | rfl | k_is)
    (case s2_6 => first | rfl | k_is)
    (case s2_7 => first | rfl | k_is)
    (case sv3 => k_is)
    (case s3_0 => first | rfl | k_is)
    (case s3_1 => first | rfl | k_is)
    (case s3_2 => first | rfl | k_is)
    (case s3_3 => first | rfl | k_is)
    (case s3_4 => first | rfl | k_is)
    (case s3_5 => first | rfl | k_is)
    (case s3_6 => first | rfl | k_is)
    (case s3_7 => first | rfl | k_is)
    (case sv4 => k_is)
    (case s4_0 => first | rfl | k_is)
    (case s4_1 => first | rfl | k_is)
    (case s4_2 => first | rfl | k_is)
    (case s4_3 => first | rfl | k_is)
    (case s4_4 => first | rfl | k_is)
    (case s4_5 => first | rfl | k_is)
    (case s4_6 => first | rfl | k_is)
    (case s4_7 => first | rfl | k_is)
    (case sv5 => k_is)
    (case s5_0 => first | rfl | k_is)
    (case s5_1 => first | rfl | k_is)
    (case s5_2 => first | rfl | k_is)
    (case s5_3 => first | rfl | k_is)
    (case s5_4 => first | rfl | k_is)
    (case s5_5 => first | rfl | k_is)
    (case s5_6 => first | rfl | k_is)
    (case s5_7 => first | rfl | k_is)
    (case sv6 => k_is)
    (case s6_0 => first | rfl | k_is)
    (case s6_1 => first | rfl | k_is)
    (case s6_2 => first | rfl | k_is)
    (case s6_3 => first | rfl | k_is)
    (case s6_4 => first | rfl | k_is)
    (case s6_5 => first | rfl | k_is)
    (case s6_6 => first | rfl | k_is)
    (case s6_7 => first | rfl | k_is)
    (case sv7 => k_is)
    (case s7_0 => first | rfl | k_is)
    (case s7_1 => first | rfl | k_is)
    (case s7_2 => first | rfl | k_is)
    (case s7_3 => first | rfl | k_is)
    (case s7_4 => first | rfl | k_is)
    (case s7_5 => first | rfl | k_is)
    (case s7_6 => first | rfl | k_is)
    (case s7_7 => first | rfl | k_is)
    (case ak_Codes => k_is)
    (case pg_Codes => k_is)
    (case hd_Codes => k_is)
    (case po_Codes => k_is)
    (case sa_Codes => k_is)
    (case mk_Codes => k_is)
    (case kc_Codes => k_is)
    (case n_Codes_tries => k_is)
    (case n_Codes_rest => k_is)
    (case n_Codes_rows => k_is)
    (case n_Codes_misses => k_is)
    (case n_Codes_since => k_is)
    (case n_Codes_shut => k_is)
    (case n_Codes_last => k_is)
    (case a0 => k_is)
    (case l0 => k_is)
    (case c0 => k_is)
    (case k0 => k_is)
    (case a1 => k_is)
    (case l1 => k_is)
    (case c1 => k_is)
    (case k1 => k_is)
    (case a2 => k_is)
    (case i2 => k_is)
    (case l2 => k_is)
    (case c2 => k_is)
    (case k2 => k_is)
    (case a3 => k_is)
    (case l3 => k_is)
    (case c3 => k_is)
    (case k3 => k_is)
    (case a4 => k_is)
    (case l4 => k_is)
    (case c4 => k_is)
    (case k4 => k_is)
    (case a5 => k_is)
    (case l5 => k_is)
    (case c5 => k_is)
    (case k5 => k_is)
    (case a6 => k_is)
    (case l6 => k_is)
    (case c6 => k_is)
    (case k6 => k_is)
    (case a7 => k_is)
    (case l7 => k_is)
    (case c7 => k_is)
    (case k7 => k_is)
    (case a8 => k_is)
    (case i8 => k_is)
    (case l8 => k_is)
    (case c8 => k_is)
    (case k8 => k_is)
    (case a9 => k_is)
    (case i9 => k_is)
    (case l9 => k_is)
    (case c9 => k_is)
    (case k9 => k_is)
    (case a10 => k_is)
    (case i10 => k_is)
    (case l10 => k_is)
    (case c10 => k_is)
    (case k10 => k_is)
    (case a11 => k_is)
    (case i11 => k_is)
    (case l11 => k_is)
    (case c11 => k_is)
    (case k11 => k_is)
    (case a12 => k_is)
    (case i12 => k_is)
    (case l12 => k_is)
    (case c12 => k_is)
    (case k12 => k_is)
    (case a13 => k_is)
    (case l13 => k_is)
    (case c13 => k_is)
    (case k13 => k_is)
    (case a14 => k_is)
    (case l14 => k_is)
    (case c14 => k_is)
    (case k14 => k_is)
    (case a15 => k_is)
    (case l15 => k_is)
    (case c15 => k_is)
    (case k15 => k_is)
    (case a16 => k_is)
    (case l16 => k_is)
    (case c16 => k_is)
    (case k16 => k_is)
    (case a17 => k_is)
    (case i17 => k_is)
    (case l17 => k_is)
    (case c17 => k_is)
    (case k17 => k_is)
    (case a18 => k_is)
    (case l18 => k_is)
    (case c18 => k_is)
    (case k18 => k_is)
    (case gv0 => k_is)
    (case gv1 => k_is)
    (case gv2 => k_is)
    (case hv2 => k_is)
    (case z_len => k_is)
    (case z_isinstance => k_is)
    (case z_int => k_is)
    (case z_bool => k_is)
    (case z_str => k_is)
    (case z_tuple => k_is)
    (case z_list => k_is)
    (case z_set => k_is)
    (case z_dict => k_is)
    (case z_all => k_is)
    (case z_zip => k_is)
    (case z_enumerate => k_is)
    (case z_range => k_is)
    (case z_sorted => k_is)
    (case z_min => k_is)
    (case z_max => k_is)
    (case z_sum => k_is)
