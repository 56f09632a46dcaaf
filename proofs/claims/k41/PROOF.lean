import PyProof.Rows.All
import Wide.All
import OpenK.AllK
import Wide.FinOn
import HandS.ForMost
import HandS.ForExc
import HandS.TupAny
import HandS.TupMul
import HandS.Deep
import HandS.Style
import HandS.IsInst
import HandS.Flow
import HandS.CallSlots
import HandS.More
import KE.GoesEnum
import HandS.Zip
import HandS.SortInts
import HandS.ExcIs
import HandS.HotCalls
import PySem.Challenge.RW_boltwatch_k41_whole_locked
set_option Elab.async false
set_option linter.all false
set_option maxRecDepth 100000
set_option maxHeartbeats 4000000
namespace BW
open PySem L2

/-! ### plain data -/
inductive D where
  | non | bl (b : Bool) | int (i : Int) | str (x : Str)
  | tup (l : List D) | lst (l : List D) | dic (kvs : List (Key × D))
  | scr (ns : List Int) | ref (n : Nat)

inductive Cell where
  | lst (l : List D) | dic (kvs : List (Key × D)) | ins (c : Str) (fs : List (Str × D))
abbrev Store := List Cell
inductive Slot where
  | dat (d : D) | own (l : List D) | ownd (kvs : List (Key × D)) | adr (a : Addr)
abbrev Env := List (Option Slot)
inductive Res (α : Type) where
  | ok (a : α) (S : Store) | err (c : Str) (S : Store) | bad
def Res.bind {α β : Type} (r : Res α) (k : α → Store → Res β) : Res β := match r with
  | .ok a S => k a S
  | .err c S => .err c S
  | .bad => .bad
theorem Res.bind_ok {α β : Type} (a : α) (S : Store) (k : α → Store → Res β) : (Res.ok a S).bind k = k a S := rfl
theorem Res.bind_err {α β : Type} (c : Str) (S : Store) (k : α → Store → Res β) : (Res.err c S).bind k = .err c S := rfl
def Res.of {α : Type} (S : Store) : Option α → Res α
  | some a => .ok a S
  | none => .bad

/-! ### worlds -/
structure Wd where
  n : Nat
  k : Nat → Addr
  F : Hp

section
variable (K : PySem.W.Frag) (w : Wd)
mutual
inductive R : V → D → Prop
  | non : R .non .non
  | bl (b : Bool) : R (.bl b) (.bl b)
  | int (i : Int) : R (.int i) (.int i)
  | str (x : Str) : R (.str x) (.str x)
  | tup {a : Addr} {vs : List V} {l : List D} : SqT K w.F a vs → RA vs l → R (.ref a) (.tup l)
  | lst {a : Addr} {vs : List V} {l : List D} : w.F a = some (.lst vs) → RA vs l → R (.ref a) (.lst l)
  | dic {a : Addr} {o : Obj} {vs : List (Key × V)} {l : List (Key × D)} : w.F a = some (.frz o (.dK vs)) → RK vs l → R (.ref a) (.dic l)
  | scr {a : Addr} {ns : List Int} : SqL K w.F a (ns.map V.int) → R (.ref a) (.scr ns)
  | ref {i : Nat} : i < w.n → R (.ref (w.k i)) (.ref i)
inductive RA : List V → List D → Prop
  | nil : RA [] []
  | cons {v : V} {d : D} {vs : List V} {ds : List D} : R v d → RA vs ds → RA (v :: vs) (d :: ds)
inductive RK : List (Key × V) → List (Key × D) → Prop
  | nil : RK [] []
  | cons {k : Key} {v : V} {d : D} {vs : List (Key × V)} {ds : List (Key × D)} : R v d → RK vs ds → RK ((k, v) :: vs) ((k, d) :: ds)
end
end

section
variable {K : PySem.W.Frag} {w : Wd}
theorem RA.length : ∀ {vs : List V} {ds : List D}, RA K w vs ds → vs.length = ds.length
  | _, _, .nil => rfl
  | _, _, .cons _ t => by simp [RA.length t]
theorem RA.get : ∀ {vs : List V} {ds : List D} {i : Nat} {d : D}, RA K w vs ds → ds[i]? = some d → ∃ v, vs[i]? = some v ∧ R K w v d
  | _, _, _, _, .nil, e => by simp at e
  | _, _, 0, _, .cons r _, e => by simp at e; subst e; exact ⟨_, rfl, r⟩
  | _, _, i + 1, _, .cons _ t, e => by
    obtain ⟨v, h1, h2⟩ := RA.get (i := i) t (by simpa using e)
    exact ⟨v, by simpa using h1, h2⟩
theorem RA.get' : ∀ {vs : List V} {ds : List D} {i : Nat} {v : V}, RA K w vs ds → vs[i]? = some v → ∃ d, ds[i]? = some d ∧ R K w v d
  | _, _, _, _, .nil, e => by simp at e
  | _, _, 0, _, .cons r _, e => by simp at e; subst e; exact ⟨_, rfl, r⟩
  | _, _, i + 1, _, .cons _ t, e => by
    obtain ⟨v, h1, h2⟩ := RA.get' (i := i) t (by simpa using e)
    exact ⟨v, by simpa using h1, h2⟩
theorem RA.append : ∀ {vs us : List V} {ds es : List D}, RA K w vs ds → RA K w us es → RA K w (vs ++ us) (ds ++ es)
  | _, _, _, _, .nil, s => s
  | _, _, _, _, .cons r t, s => .cons r (RA.append t s)
theorem RA.one {v : V} {d : D} (r : R K w v d) : RA K w [v] [d] := .cons r .nil
theorem RA.take : ∀ {vs : List V} {ds : List D} (n : Nat), RA K w vs ds → RA K w (vs.take n) (ds.take n)
  | _, _, 0, _ => .nil
  | _, _, _ + 1, .nil => .nil
  | _, _, n + 1, .cons r t => .cons r (RA.take n t)
theorem RA.drop : ∀ {vs : List V} {ds : List D} (n : Nat), RA K w vs ds → RA K w (vs.drop n) (ds.drop n)
  | _, _, 0, r => r
  | _, _, _ + 1, .nil => .nil
  | _, _, n + 1, .cons _ t => RA.drop n t
theorem RA.set {v : V} {d : D} (r : R K w v d) : ∀ {vs : List V} {ds : List D} (i : Nat), RA K w vs ds → RA K w (vs.set i v) (ds.set i d)
  | _, _, _, .nil => .nil
  | _, _, 0, .cons _ t => .cons r t
  | _, _, i + 1, .cons q t => .cons q (RA.set r i t)
theorem RA.flat {vs : List V} {ds : List D} (h : RA K w vs ds) : ∀ k : Nat, RA K w (List.replicate k vs).flatten (List.replicate k ds).flatten
  | 0 => .nil
  | k + 1 => by rw [List.replicate_succ, List.replicate_succ, List.flatten_cons, List.flatten_cons]; exact h.append (RA.flat h k)
end

/-! ### from a point on: what was tracked stands, but the cells -/
structure Ext (w : Wd) (H : Hp) (w' : Wd) (H' : Hp) : Prop where
  n : w.n ≤ w'.n
  k : ∀ i, i < w.n → w'.k i = w.k i
  F : Same w.F w'.F
  keep : ∀ a o, H a = some o → (∀ i, i < w.n → w.k i ≠ a) → H' a = some o
  there : ∀ a o, H a = some o → ∃ o', H' a = some o'
  newF : ∀ a o, w'.F a = some o → w.F a = some o ∨ H a = none
  newK : ∀ i, w.n ≤ i → i < w'.n → H (w'.k i) = none
theorem Ext.refl (w : Wd) (H : Hp) : Ext w H w H := ⟨Nat.le_refl _, fun _ _ => rfl, Same.refl _, fun _ _ h _ => h, fun _ o h => ⟨o, h⟩, fun _ _ h => .inl h, fun i h1 h2 => absurd (Nat.lt_of_lt_of_le h2 h1) (Nat.lt_irrefl _)⟩
theorem Ext.back {w w1 : Wd} {H H1 : Hp} (a : Ext w H w1 H1) {x : Addr} (h : H1 x = none) : H x = none := by
  cases e : H x with
  | none => rfl
  | some o =>
    obtain ⟨o', q⟩ := a.there x o e
    rw [q] at h; cases h
theorem Ext.trans {w w1 w2 : Wd} {H H1 H2 : Hp} (a : Ext w H w1 H1) (b : Ext w1 H1 w2 H2) : Ext w H w2 H2 := by
  have kp : ∀ x o, H x = some o → (∀ i, i < w.n → w.k i ≠ x) → ∀ i, i < w1.n → w1.k i ≠ x := fun x o h hk i hi => by
    by_cases q : i < w.n
    · rw [a.k i q]; exact hk i q
    · intro e
      have z := a.newK i (Nat.le_of_not_lt q) hi
      rw [e, h] at z; cases z
  refine ⟨Nat.le_trans a.n b.n, fun i hi => (b.k i (Nat.lt_of_lt_of_le hi a.n)).trans (a.k i hi), a.F.trans b.F, fun x o h hk => b.keep x o (a.keep x o h hk) (kp x o h hk), fun x o h => ?_, fun x o h => ?_, fun i h1 h2 => ?_⟩
  · obtain ⟨o1, q1⟩ := a.there x o h
    exact b.there x o1 q1
  · rcases b.newF x o h with q | q
    · exact a.newF x o q
    · exact .inr (a.back q)
  · by_cases q : i < w1.n
    · rw [b.k i q]; exact a.newK i h1 q
    · exact a.back (b.newK i (Nat.le_of_not_lt q) h2)

section
variable {K : PySem.W.Frag} {w w' : Wd}
/-- what the relation leans on -/
structure Le (w w' : Wd) : Prop where
  n : w.n ≤ w'.n
  k : ∀ i, i < w.n → w'.k i = w.k i
  F : Same w.F w'.F
theorem Ext.le {H H' : Hp} (e : Ext w H w' H') : Le w w' := ⟨e.n, e.k, e.F⟩
theorem SqT.mono {F F' : Hp} {a : Addr} {xs : List V} (e : Same F F') (h : SqT K F a xs) : SqT K F' a xs := by
  rcases h with (h | ⟨o, h⟩) | h
  · exact .inl (.inl (e _ _ h))
  · exact .inl (.inr ⟨o, e _ _ h⟩)
  · exact .inr h
theorem Rd.mono {F F' : Hp} {a : Addr} {u : HO} (e : Same F F') (h : Rd F a u) : Rd F' a u := by
  rcases h with h | ⟨o, h⟩
  · exact .inl (e _ _ h)
  · exact .inr ⟨o, e _ _ h⟩
mutual
theorem R.mono (e : Le w w') : ∀ {v : V} {d : D}, R K w v d → R K w' v d
  | _, _, .non => .non
  | _, _, .bl b => .bl b
  | _, _, .int i => .int i
  | _, _, .str x => .str x
  | _, _, .tup h t => .tup (SqT.mono e.F h) (RA.mono e t)
  | _, _, .lst h t => .lst (e.F _ _ h) (RA.mono e t)
  | _, _, .dic h t => .dic (e.F _ _ h) (RK.mono e t)
  | _, _, .scr h => .scr (e.F.seq h)
  | _, _, .ref (i := i) h => by
    rw [← e.k i h]
    exact .ref (Nat.lt_of_lt_of_le h e.n)
theorem RA.mono (e : Le w w') : ∀ {vs : List V} {ds : List D}, RA K w vs ds → RA K w' vs ds
  | _, _, .nil => .nil
  | _, _, .cons r t => .cons (R.mono e r) (RA.mono e t)
theorem RK.mono (e : Le w w') : ∀ {vs : List (Key × V)} {ds : List (Key × D)}, RK K w vs ds → RK K w' vs ds
  | _, _, .nil => .nil
  | _, _, .cons r t => .cons (R.mono e r) (RK.mono e t)
end
end

/-! ### the state -/
inductive RF (K : PySem.W.Frag) (w : Wd) : List (Str × V) → List (Str × D) → Prop
  | nil : RF K w [] []
  | cons {k : Str} {v : V} {d : D} {vs : List (Str × V)} {ds : List (Str × D)} : R K w v d → RF K w vs ds → RF K w ((k, v) :: vs) ((k, d) :: ds)
theorem RF.mono {K : PySem.W.Frag} {w w' : Wd} (e : Le w w') : ∀ {vs : List (Str × V)} {ds : List (Str × D)}, RF K w vs ds → RF K w' vs ds
  | _, _, .nil => .nil
  | _, _, .cons r t => .cons (r.mono e) (RF.mono e t)
def CellOk (K : PySem.W.Frag) (cl : Str → Addr) (w : Wd) (H : Hp) (a : Addr) : Cell → Prop
  | .lst l => ∃ vs, H a = some (.lst vs) ∧ RA K w vs l
  | .dic l => ∃ vs, H a = some (.dK vs) ∧ RK K w vs l
  | .ins c l => ∃ dx vs, H a = some (.ins (cl c) dx vs) ∧ RF K w vs l
theorem CellOk.there {K : PySem.W.Frag} {cl : Str → Addr} {w : Wd} {H : Hp} {a : Addr} {c : Cell} (h : CellOk K cl w H a c) : ∃ o, H a = some o := by
  cases c with
  | lst l => obtain ⟨vs, h, _⟩ := h; exact ⟨_, h⟩
  | dic l => obtain ⟨vs, h, _⟩ := h; exact ⟨_, h⟩
  | ins c l => obtain ⟨dx, vs, h, _⟩ := h; exact ⟨_, h⟩
theorem CellOk.mono {K : PySem.W.Frag} {cl : Str → Addr} {w w' : Wd} {H H' : Hp} {a : Addr} {c : Cell} (e : Le w w') (hk : ∀ o, H a = some o → H' a = some o) (h : CellOk K cl w H a c) : CellOk K cl w' H' a c := by
  cases c with
  | lst l => obtain ⟨vs, h, r⟩ := h; exact ⟨vs, hk _ h, r.mono e⟩
  | dic l => obtain ⟨vs, h, r⟩ := h; exact ⟨vs, hk _ h, r.mono e⟩
  | ins c l => obtain ⟨dx, vs, h, r⟩ := h; exact ⟨dx, vs, hk _ h, r.mono e⟩
structure Ok (K : PySem.W.Frag) (cl : Str → Addr) (w : Wd) (S : Store) (H : Hp) : Prop where
  len : w.n = S.length
  sub : Same w.F H
  cell : ∀ i c, S[i]? = some c → w.F (w.k i) = none ∧ CellOk K cl w H (w.k i) c
  inj : ∀ i j, i < w.n → j < w.n → w.k i = w.k j → i = j

/-- an own object of the frame: not frozen, no cell -/
structure Hid (w : Wd) (a : Addr) : Prop where
  nF : w.F a = none
  nK : ∀ i, i < w.n → w.k i ≠ a
def SlotOk (K : PySem.W.Frag) (w : Wd) (H : Hp) : Slot → V → Prop
  | .dat d, v => R K w v d
  | .own l, v => ∃ a vs, v = .ref a ∧ H a = some (.lst vs) ∧ RA K w vs l ∧ Hid w a
  | .ownd l, v => ∃ a vs, v = .ref a ∧ H a = some (.dK vs) ∧ RK K w vs l ∧ Hid w a
  | .adr a, v => v = .ref a
def Slot.isOwn : Slot → Bool
  | .dat _ => false
  | .adr _ => false
  | _ => true
structure EnvR (K : PySem.W.Frag) (w : Wd) (H : Hp) (σ : L2.St) (ρ : Env) : Prop where
  len : σ.length = ρ.length
  slot : ∀ (i : Nat) (s : Slot), ρ[i]? = some (some s) → ∃ v, σ[i]? = some (some v) ∧ SlotOk K w H s v
  sep : ∀ (i j : Nat) (s t : Slot) (v : V), i ≠ j → ρ[i]? = some (some s) → ρ[j]? = some (some t) → s.isOwn = true → t.isOwn = true → σ[i]? = some (some v) → σ[j]? = some (some v) → False
section
variable {K : PySem.W.Frag} {w w' : Wd} {H H' : Hp} {σ : L2.St} {ρ : Env}
theorem Hid.mono {a : Addr} {o : HO} (e : Ext w H w' H') (ha : H a = some o) (h : Hid w a) : Hid w' a := by
  refine ⟨?_, fun i hi => ?_⟩
  · cases q : w'.F a with
    | none => rfl
    | some u =>
      rcases e.newF a u q with z | z
      · rw [h.nF] at z; cases z
      · rw [ha] at z; cases z
  · by_cases q : i < w.n
    · rw [e.k i q]; exact h.nK i q
    · intro z
      have y := e.newK i (Nat.le_of_not_lt q) hi
      rw [z, ha] at y; cases y
theorem SlotOk.mono {s : Slot} {v : V} (e : Ext w H w' H') (h : SlotOk K w H s v) : SlotOk K w' H' s v := by
  cases s with
  | adr a => exact h
  | dat d => exact R.mono e.le h
  | own l =>
    obtain ⟨a, vs, rfl, ha, r, hi⟩ := h
    exact ⟨a, vs, rfl, e.keep a _ ha hi.nK, r.mono e.le, hi.mono e ha⟩
  | ownd l =>
    obtain ⟨a, vs, rfl, ha, r, hi⟩ := h
    exact ⟨a, vs, rfl, e.keep a _ ha hi.nK, r.mono e.le, hi.mono e ha⟩
theorem EnvR.mono (e : Ext w H w' H') (h : EnvR K w H σ ρ) : EnvR K w' H' σ ρ :=
  ⟨h.len, fun i s hs => let ⟨v, h1, h2⟩ := h.slot i s hs; ⟨v, h1, h2.mono e⟩, h.sep⟩
end

/-! ### what an expression gives -/
section
variable (K : PySem.W.Frag) (cl : Str → Addr)
def Post {α β : Type} (W : WX) (σ : L2.St) (Rl : Wd → β → α → Prop) (w : Wd) (H : Hp) (r : Res α) (Q : β → Hp → Prop) : Prop := match r with
  | .ok d S' => ∀ w' v H', Ext w H w' H' → Ok K cl w' S' H' → Rl w' v d → Q v H'
  | .err c S' => ∀ w' H', Ext w H w' H' → Ok K cl w' S' H' → W (.ref (cl c)) none σ H'
  | .bad => False
def tG {α β : Type} (W : WX) (Rl : Wd → β → α → Prop) (f : Env → Store → Res α) : L2.St → Hp → (β → Hp → Prop) → Prop := fun σ H Q =>
  ∃ w ρ S, Ok K cl w S H ∧ EnvR K w H σ ρ ∧ Post K cl W σ Rl w H (f ρ S) Q
abbrev RB : Wd → Bool → Bool → Prop := fun _ b c => b = c
end
abbrev DE (X : Cx) (cl : Str → Addr) (W : WX) (e : Expr) (f : Env → Store → Res D) : Prop := PE X e (tG X.K cl W (R X.K) f)
abbrev DT (X : Cx) (cl : Str → Addr) (W : WX) (e : Expr) (f : Env → Store → Res Bool) : Prop := PT X e (tG X.K cl W RB f)
abbrev DW (X : Cx) (cl : Str → Addr) (W : WX) (e : Expr) (f : Env → Store → Res Bool) : Prop := PW X e (tG X.K cl W RB f)
abbrev DA (X : Cx) (cl : Str → Addr) (W : WX) (es : List Expr) (f : Env → Store → Res (List D)) : Prop := PA X es (tG X.K cl W (RA X.K) f)

section
variable {K : PySem.W.Frag} {cl : Str → Addr} {W : WX} {σ : L2.St} {w w' : Wd} {H H' : Hp}
theorem Post.mono {α β : Type} {Rl : Wd → β → α → Prop} {r : Res α} {Q : β → Hp → Prop} (e : Ext w H w' H') (h : Post K cl W σ Rl w H r Q) : Post K cl W σ Rl w' H' r Q := by
  cases r with
  | ok d S => exact fun w2 v H2 e2 o2 r2 => h w2 v H2 (e.trans e2) o2 r2
  | err c S => exact fun w2 H2 e2 o2 => h w2 H2 (e.trans e2) o2
  | bad => exact h
theorem Post.bind {α β α' β' : Type} {Rl : Wd → β → α → Prop} {Rl' : Wd → β' → α' → Prop} {r : Res α} {k : α → Store → Res α'} {Q : β' → Hp → Prop} {Q1 : β → Hp → Prop} (h : Post K cl W σ Rl' w H (r.bind k) Q)
    (hk : ∀ d S1 w1 v H1, Ext w H w1 H1 → Ok K cl w1 S1 H1 → Rl w1 v d → Post K cl W σ Rl' w1 H1 (k d S1) Q → Q1 v H1) : Post K cl W σ Rl w H r Q1 := by
  cases r with
  | ok d S => exact fun w1 v H1 e1 o1 r1 => hk d S w1 v H1 e1 o1 r1 (Post.mono e1 h)
  | err c S => exact h
  | bad => exact h
/-- the start of a reading -/
theorem tG.at {α β : Type} {Rl : Wd → β → α → Prop} {f : Env → Store → Res α} {ρ : Env} {S : Store} {Q : β → Hp → Prop} (o : Ok K cl w S H) (n : EnvR K w H σ ρ) (p : Post K cl W σ Rl w H (f ρ S) Q) : tG K cl W Rl f σ H Q := ⟨w, ρ, S, o, n, p⟩
theorem Post.here {α β : Type} {Rl : Wd → β → α → Prop} {d : α} {S : Store} {Q : β → Hp → Prop} {v : β} (h : Post K cl W σ Rl w H (.ok d S) Q) (o : Ok K cl w S H) (r : Rl w v d) : Q v H := h w v H (Ext.refl _ _) o r
end
theorem PE.imp {X : Cx} {e : Expr} {t t' : TE} (h : PE X e t) (i : ∀ σ H Q, t' σ H Q → t σ H Q) : PE X e t' := ⟨fun pins s σ H Q I q => h.run pins s σ H Q I (i σ H Q q)⟩
theorem PT.imp {X : Cx} {e : Expr} {t t' : TT} (h : PT X e t) (i : ∀ σ H Q, t' σ H Q → t σ H Q) : PT X e t' := ⟨fun pins s σ H Q I q => h.run pins s σ H Q I (i σ H Q q)⟩
theorem PW.imp {X : Cx} {e : Expr} {t t' : TT} (h : PW X e t) (i : ∀ σ H Q, t' σ H Q → t σ H Q) : PW X e t' := ⟨fun wh pins s σ H Q I q => h.run wh pins s σ H Q I (i σ H Q q)⟩
theorem PA.imp {X : Cx} {e : List Expr} {t t' : TA} (h : PA X e t) (i : ∀ σ H Q, t' σ H Q → t σ H Q) : PA X e t' := ⟨fun p pins s σ H Q I q => h.run p pins s σ H Q I (i σ H Q q)⟩
theorem PS.imp {X : Cx} {e : Stmt} {t t' : TS} (h : PS X e t) (i : ∀ D σ H, t' D σ H → t D σ H) : PS X e t' := ⟨fun pins s σ H D I q => h.run pins s σ H D I (i D σ H q)⟩
theorem PSs.imp {X : Cx} {e : List Stmt} {t t' : TS} (h : PSs X e t) (i : ∀ D σ H, t' D σ H → t D σ H) : PSs X e t' := ⟨fun pins s σ H D I q => h.run pins s σ H D I (i D σ H q)⟩

/-! ### names, constants -/
def fC (d : D) : Env → Store → Res D := fun _ S => .ok d S
def fV (i : Nat) : Env → Store → Res D := fun ρ S => match ρ[i]? with
  | some (some (.dat d)) => .ok d S
  | _ => .bad
section
variable {X : Cx} {cl : Str → Addr} {W : WX}
theorem de_v (i : Nat) {x : Str} {pos : Pos} (h : PE X (.Name x pos) (tVar i)) : DE X cl W (.Name x pos) (fV i) := by
  refine PE.imp h fun σ H Q ⟨w, ρ, S, o, n, p⟩ => ?_
  unfold fV at p
  split at p
  · rename_i d e
    obtain ⟨v, h1, h2⟩ := n.slot i _ e
    exact ⟨v, h1, p.here o h2⟩
  · exact p.elim
theorem de_c {e : Expr} {v : V} {d : D} (h : PE X e (tC v)) (r : ∀ w, R X.K w v d) : DE X cl W e (fC d) :=
  PE.imp h fun σ H Q ⟨w, ρ, S, o, n, p⟩ => p.here o (r w)
theorem de_int {i j pos} : DE X cl W (.Constant (.int i) j pos) (fC (.int i)) := de_c pe_int fun _ => .int i
theorem de_bl {b j pos} : DE X cl W (.Constant (.bool b) j pos) (fC (.bl b)) := de_c pe_bl fun _ => .bl b
theorem de_non {j pos} : DE X cl W (.Constant .none j pos) (fC .non) := de_c pe_non fun _ => .non
theorem de_str {x j pos} : DE X cl W (.Constant (.str x) j pos) (fC (.str x)) := de_c pe_str fun _ => .str x

/-! ### argument lists, displays -/
def fNil : Env → Store → Res (List D) := fun _ S => .ok [] S
def fCons (f : Env → Store → Res D) (g : Env → Store → Res (List D)) : Env → Store → Res (List D) := fun ρ S =>
  (f ρ S).bind fun d S1 => (g ρ S1).bind fun ds S2 => .ok (d :: ds) S2
theorem da_nil : DA X cl W [] fNil := PA.imp pa_nil fun σ H Q ⟨w, ρ, S, o, n, p⟩ => p.here o .nil
theorem da_cons {e : Expr} {es : List Expr} {f : Env → Store → Res D} {g : Env → Store → Res (List D)} (h : DE X cl W e f) (t : DA X cl W es g)
    (hs : starEach (e :: es) X.env = (false, eval e X.env) :: starEach es X.env := by rfl) : DA X cl W (e :: es) (fCons f g) := by
  refine PA.imp (pa_cons h t hs) fun σ H Q ⟨w, ρ, S, o, n, p⟩ => ?_
  refine tG.at o n (Post.bind p fun d S1 w1 v H1 e1 o1 r1 p1 => tG.at o1 (n.mono e1) (Post.bind p1 fun ds S2 w2 vs H2 e2 o2 r2 p2 => ?_))
  exact p2.here o2 (.cons (r1.mono e2.le) r2)
end
end BW
namespace BW
open PySem L2
def LIM : Nat := 100000
theorem lim_le {n : Nat} (h : n ≤ LIM) : n ≤ sizeLine := Nat.le_trans h (by decide)
theorem lim_lt {n : Nat} (h : n < LIM) : n < sizeLine := Nat.lt_of_lt_of_le h (by decide)

section
variable {K : PySem.W.Frag} {cl : Str → Addr} {W : WX} {σ : L2.St} {w : Wd} {S : Store} {H : Hp}
/-- a frozen new object -/
def Wd.lay (w : Wd) (p : Addr) (o : HO) : Wd := { w with F := upd w.F p o }
theorem Ok.laid (k : Ok K cl w S H) {p : Addr} {o : HO} (hp : H p = none) : Ext w H (w.lay p o) (upd H p o) ∧ Ok K cl (w.lay p o) S (upd H p o) := by
  have nF : w.F p = none := by
    cases e : w.F p with
    | none => rfl
    | some u => rw [k.sub p u e] at hp; cases hp
  have ext : Ext w H (w.lay p o) (upd H p o) := by
    refine ⟨Nat.le_refl _, fun _ _ => rfl, fun b u h => ?_, fun b u h _ => ?_, fun b u h => ?_, fun b u h => ?_, fun i h1 h2 => absurd (Nat.lt_of_lt_of_le h2 h1) (Nat.lt_irrefl _)⟩
    · show upd w.F p o b = some u
      rw [upd_ne (ne_of_none h nF)]; exact h
    · rw [upd_ne (ne_of_none h hp)]; exact h
    · exact ⟨u, by rw [upd_ne (ne_of_none h hp)]; exact h⟩
    · by_cases e : b = p
      · subst e; exact .inr hp
      · have h : upd w.F p o b = some u := h
        rw [upd_ne e] at h; exact .inl h
  refine ⟨ext, k.len, fun b u h => ?_, fun i c h => ?_, k.inj⟩
  · have h : upd w.F p o b = some u := h
    by_cases e : b = p
    · subst e; rw [upd_same] at h ⊢; exact h
    · rw [upd_ne e] at h ⊢; exact k.sub b u h
  · obtain ⟨h1, h2⟩ := k.cell i c h
    obtain ⟨u, hu⟩ := h2.there
    have ne : w.k i ≠ p := ne_of_none hu hp
    refine ⟨?_, CellOk.mono ext.le (fun v hv => ?_) h2⟩
    · show upd w.F p o (w.k i) = none
      rw [upd_ne ne]; exact h1
    · show upd H p o (w.k i) = some v
      rw [upd_ne ne]; exact hv
theorem Ok.layT (k : Ok K cl w S H) {p : Addr} {vs : List V} {ds : List D} (hp : H p = none) (r : RA K w vs ds) : Ext w H (w.lay p (.tup vs)) (upd H p (.tup vs)) ∧ Ok K cl (w.lay p (.tup vs)) S (upd H p (.tup vs)) ∧ R K (w.lay p (.tup vs)) (.ref p) (.tup ds) :=
  let ⟨e, o⟩ := k.laid hp; ⟨e, o, .tup (SqT.of upd_same) (r.mono e.le)⟩
theorem Ok.layL (k : Ok K cl w S H) {p : Addr} {vs : List V} {ds : List D} (hp : H p = none) (r : RA K w vs ds) : Ext w H (w.lay p (.lst vs)) (upd H p (.lst vs)) ∧ Ok K cl (w.lay p (.lst vs)) S (upd H p (.lst vs)) ∧ R K (w.lay p (.lst vs)) (.ref p) (.lst ds) :=
  let ⟨e, o⟩ := k.laid hp; ⟨e, o, .lst upd_same (r.mono e.le)⟩
theorem Ok.layD (k : Ok K cl w S H) {p : Addr} {q : Obj} {vs : List (Key × V)} {ds : List (Key × D)} (hp : H p = none) (r : RK K w vs ds) : Ext w H (w.lay p (.frz q (.dK vs))) (upd H p (.frz q (.dK vs))) ∧ Ok K cl (w.lay p (.frz q (.dK vs))) S (upd H p (.frz q (.dK vs))) ∧ R K (w.lay p (.frz q (.dK vs))) (.ref p) (.dic ds) :=
  let ⟨e, o⟩ := k.laid hp; ⟨e, o, .dic upd_same (r.mono e.le)⟩
/-- reading frozen things in H -/
theorem Ok.sqT (k : Ok K cl w S H) {a : Addr} {vs : List V} (h : SqT K w.F a vs) : SqT K H a vs := SqT.mono k.sub h
theorem Ok.sqL (k : Ok K cl w S H) {a : Addr} {vs : List V} (h : w.F a = some (.lst vs)) : SqL K H a vs := SqL.of (k.sub _ _ h)
theorem Post.okT {α β : Type} {Rl : Wd → β → α → Prop} {d : α} {S' : Store} {Q : β → Hp → Prop} {v : β} {w' : Wd} {H' : Hp} (h : Post K cl W σ Rl w H (.ok d S') Q) (e : Ext w H w' H') (o : Ok K cl w' S' H') (r : Rl w' v d) : Q v H' := h w' v H' e o r
end

section
variable {X : Cx} {cl : Str → Addr} {W : WX}
/-! ### displays -/
def fTup (g : Env → Store → Res (List D)) : Env → Store → Res D := fun ρ S => (g ρ S).bind fun ds S1 => if ds.length ≤ LIM then .ok (.tup ds) S1 else .bad
def fLst (g : Env → Store → Res (List D)) : Env → Store → Res D := fun ρ S => (g ρ S).bind fun ds S1 => if ds.length ≤ LIM then .ok (.lst ds) S1 else .bad
theorem de_tup {es : List Expr} {x1} {pos : Pos} {g : Env → Store → Res (List D)} (h : DA X cl W es g) : DE X cl W (.Tuple es x1 pos) (fTup g) := by
  refine PE.imp (pe_tup h) fun σ H Q ⟨w, ρ, S, o, n, p⟩ => tG.at o n (Post.bind p fun ds S1 w1 vs H1 e1 o1 r1 p1 => ?_)
  split at p1
  · rename_i hl
    refine ⟨lim_le (by rw [r1.length]; exact hl), fun q hq => ?_⟩
    obtain ⟨e, o', r⟩ := o1.layT hq r1
    exact p1.okT e o' r
  · exact p1.elim
theorem de_lst {es : List Expr} {pos : Pos} {g : Env → Store → Res (List D)} (h : DA X cl W es g) : DE X cl W (.List es pos) (fLst g) := by
  refine PE.imp (pe_lst h) fun σ H Q ⟨w, ρ, S, o, n, p⟩ => tG.at o n (Post.bind p fun ds S1 w1 vs H1 e1 o1 r1 p1 => ?_)
  split at p1
  · rename_i hl
    refine ⟨lim_le (by rw [r1.length]; exact hl), fun q hq => ?_⟩
    obtain ⟨e, o', r⟩ := o1.layL hq r1
    exact p1.okT e o' r
  · exact p1.elim

/-! ### two-place operations -/
def r2 (K : PySem.W.Frag) (cl : Str → Addr) (g : D → D → Store → Option D) : R2 := fun x y H Q => ∃ w S d e z, Ok K cl w S H ∧ R K w x d ∧ R K w y e ∧ g d e S = some z ∧
  ∀ w' v H', Ext w H w' H' → Ok K cl w' S H' → R K w' v z → Q v H'
def f2 (g : D → D → Store → Option D) (fa fb : Env → Store → Res D) : Env → Store → Res D := fun ρ S => (fa ρ S).bind fun a S1 => (fb ρ S1).bind fun b S2 => Res.of S2 (g a b S2)
theorem OpR.imp {f : Value → Value → Sem Value} {r r' : R2} (h : OpR X f r) (i : ∀ x y H Q, r' x y H Q → r x y H Q) : OpR X f r' := by
  intro pins s σ H x y v u Q I rx ry q
  exact h pins s σ H x y v u Q I rx ry (i x y H Q q)
theorem of2 {f : Value → Value → Sem Value} {r : R2} {g : D → D → Store → Option D} (h : OpR X f r)
    (i : ∀ x y H Q w S d e z, Ok X.K cl w S H → R X.K w x d → R X.K w y e → g d e S = some z → (∀ w' v H', Ext w H w' H' → Ok X.K cl w' S H' → R X.K w' v z → Q v H') → r x y H Q) : OpR X f (r2 X.K cl g) :=
  OpR.imp h fun x y H Q ⟨w, S, d, e, z, k, r1, r2, hg, q⟩ => i x y H Q w S d e z k r1 r2 hg q
theorem t2_of {fa fb : Env → Store → Res D} {g : D → D → Store → Option D} {σ : L2.St} {H : Hp} {Q : VK} (h : tG X.K cl W (R X.K) (f2 g fa fb) σ H Q) :
    tOp (r2 X.K cl g) (tG X.K cl W (R X.K) fa) (tG X.K cl W (R X.K) fb) σ H Q := by
  obtain ⟨w, ρ, S, o, n, p⟩ := h
  refine tG.at o n (Post.bind p fun a S1 w1 x H1 e1 o1 r1 p1 => tG.at o1 (n.mono e1) (Post.bind p1 fun b S2 w2 y H2 e2 o2 r2 p2 => ?_))
  cases hg : g a b S2 with
  | none => rw [hg] at p2; exact p2.elim
  | some z =>
    rw [hg] at p2
    exact ⟨w2, S2, a, b, z, o2, r1.mono e2.le, r2, hg, fun w' v H' e' o' r' => p2.okT e' o' r'⟩
theorem de_bin {op : Operator} {a b : Expr} {pos : Pos} {g : D → D → Store → Option D} {fa fb : Env → Store → Res D} (ho : OpR X (binaryOp op) (r2 X.K cl g)) (ha : DE X cl W a fa) (hb : DE X cl W b fb) : DE X cl W (.BinOp a op b pos) (f2 g fa fb) :=
  PE.imp (pe_op ho ha hb) fun _ _ _ h => t2_of h
theorem de_cmp {op : CmpOp} {a b : Expr} {pos : Pos} {g : D → D → Store → Option D} {fa fb : Env → Store → Res D} (ho : OpR X (compareOp op) (r2 X.K cl g)) (ha : DE X cl W a fa) (hb : DE X cl W b fb) (hm : behindInMarks op b = false) : DE X cl W (.Compare a [op] [b] pos) (f2 g fa fb) :=
  PE.imp (pe_cmpR ho ha hb hm) fun _ _ _ h => t2_of h

/-- a value's place in the heap -/
theorem R.int_inv {K : PySem.W.Frag} {w : Wd} {v : V} {i : Int} (h : R K w v (.int i)) : v = .int i := by cases h; rfl
theorem R.str_inv {K : PySem.W.Frag} {w : Wd} {v : V} {i : Str} (h : R K w v (.str i)) : v = .str i := by cases h; rfl
theorem R.bl_inv {K : PySem.W.Frag} {w : Wd} {v : V} {i : Bool} (h : R K w v (.bl i)) : v = .bl i := by cases h; rfl
theorem R.non_inv {K : PySem.W.Frag} {w : Wd} {v : V} (h : R K w v .non) : v = .non := by cases h; rfl
theorem R.tup_inv {K : PySem.W.Frag} {w : Wd} {v : V} {l : List D} (h : R K w v (.tup l)) : ∃ a vs, v = .ref a ∧ SqT K w.F a vs ∧ RA K w vs l := by cases h; exact ⟨_, _, rfl, by assumption, by assumption⟩
theorem R.lst_inv {K : PySem.W.Frag} {w : Wd} {v : V} {l : List D} (h : R K w v (.lst l)) : ∃ a vs, v = .ref a ∧ w.F a = some (.lst vs) ∧ RA K w vs l := by cases h; exact ⟨_, _, rfl, by assumption, by assumption⟩
theorem R.dic_inv {K : PySem.W.Frag} {w : Wd} {v : V} {l : List (Key × D)} (h : R K w v (.dic l)) : ∃ a vs, v = .ref a ∧ Rd w.F a (.dK vs) ∧ RK K w vs l := by cases h with | dic h1 h2 => exact ⟨_, _, rfl, .inr ⟨_, h1⟩, h2⟩
theorem R.dic_frz {K : PySem.W.Frag} {w : Wd} {v : V} {l : List (Key × D)} (h : R K w v (.dic l)) : ∃ a q vs, v = .ref a ∧ w.F a = some (.frz q (.dK vs)) ∧ RK K w vs l := by cases h with | dic h1 h2 => exact ⟨_, _, _, rfl, h1, h2⟩
theorem R.scr_inv {K : PySem.W.Frag} {w : Wd} {v : V} {l : List Int} (h : R K w v (.scr l)) : ∃ a, v = .ref a ∧ SqL K w.F a (l.map V.int) := by cases h; exact ⟨_, rfl, by assumption⟩
theorem R.ref_inv {K : PySem.W.Frag} {w : Wd} {v : V} {i : Nat} (h : R K w v (.ref i)) : v = .ref (w.k i) ∧ i < w.n := by cases h; exact ⟨rfl, by assumption⟩

def gAdd : D → D → Store → Option D
  | .int i, .int j, _ => some (.int (i + j))
  | .str a, .str b, _ => if a.length + b.length ≤ LIM then some (.str (a ++ b)) else none
  | .tup a, .tup b, _ => if a.length + b.length ≤ LIM then some (.tup (a ++ b)) else none
  | .lst a, .lst b, _ => if a.length + b.length ≤ LIM then some (.lst (a ++ b)) else none
  | _, _, _ => none
theorem o_add : OpR X (binaryOp .Add) (r2 X.K cl gAdd) := by
  refine of2 (op_add.or (op_add_str.or (op_catA.or op_cat))) fun x y H Q w S d e z k r1 r2 hg q => ?_
  cases d <;> cases e <;> simp only [gAdd] at hg <;> try cases hg
  · cases r1; cases r2
    exact .inl ⟨_, _, rfl, rfl, q w _ H (Ext.refl _ _) k (.int _)⟩
  · cases r1; cases r2
    split at hg
    · rename_i hl
      cases hg
      exact .inr (.inl ⟨_, _, rfl, rfl, lim_le hl, q w _ H (Ext.refl _ _) k (.str _)⟩)
    · cases hg
  · obtain ⟨a, vs, rfl, ha, ra⟩ := r1.tup_inv
    obtain ⟨b, us, rfl, hb, rb⟩ := r2.tup_inv
    split at hg
    · rename_i hl
      cases hg
      refine .inr (.inr (.inl ⟨a, b, vs, us, rfl, rfl, k.sqT ha, k.sqT hb, lim_le (by rw [ra.length, rb.length]; exact hl), fun e => ?_, fun _ e => ?_, fun _ _ p hp => ?_⟩))
      · subst e; cases ra
        exact q w _ H (Ext.refl _ _) k r2
      · subst e; cases rb
        rw [List.append_nil] at q
        exact q w _ H (Ext.refl _ _) k r1
      · obtain ⟨e, o, r⟩ := k.layT hp (ra.append rb)
        exact q _ _ _ e o r
    · cases hg
  · obtain ⟨a, vs, rfl, ha, ra⟩ := r1.lst_inv
    obtain ⟨b, us, rfl, hb, rb⟩ := r2.lst_inv
    split at hg
    · rename_i hl
      cases hg
      refine .inr (.inr (.inr ⟨a, b, vs, us, rfl, rfl, k.sub _ _ ha, k.sub _ _ hb, lim_le (by rw [ra.length, rb.length]; exact hl), fun p hp => ?_⟩))
      obtain ⟨e, o, r⟩ := k.layL hp (ra.append rb)
      exact q _ _ _ e o r
    · cases hg
def gSub : D → D → Store → Option D
  | .int i, .int j, _ => some (.int (i - j))
  | _, _, _ => none
theorem o_sub : OpR X (binaryOp .Sub) (r2 X.K cl gSub) := by
  refine of2 op_sub fun x y H Q w S d e z k r1 r2 hg q => ?_
  cases d <;> cases e <;> simp only [gSub] at hg <;> try cases hg
  cases r1; cases r2
  exact ⟨_, _, rfl, rfl, q w _ H (Ext.refl _ _) k (.int _)⟩
def gFdiv : D → D → Store → Option D
  | .int i, .int j, _ => if 0 < j ∧ j < 1073741824 then some (.int (i / j)) else none
  | _, _, _ => none
theorem o_fdiv : OpR X (binaryOp .FloorDiv) (r2 X.K cl gFdiv) := by
  refine of2 op_fdiv fun x y H Q w S d e z k r1 r2 hg q => ?_
  cases d <;> cases e <;> simp only [gFdiv] at hg <;> try cases hg
  cases r1; cases r2
  split at hg
  · rename_i hc
    cases hg
    exact ⟨_, _, rfl, rfl, hc, q w _ H (Ext.refl _ _) k (.int _)⟩
  · cases hg
def gMod : D → D → Store → Option D
  | .int i, .int j, _ => if 0 < j then some (.int (i % j)) else none
  | _, _, _ => none
theorem o_mod : OpR X (binaryOp .Mod) (r2 X.K cl gMod) := by
  refine of2 op_mod fun x y H Q w S d e z k r1 r2 hg q => ?_
  cases d <;> cases e <;> simp only [gMod] at hg <;> try cases hg
  cases r1; cases r2
  split at hg
  · rename_i hc
    cases hg
    exact ⟨_, _, rfl, rfl, hc, q w _ H (Ext.refl _ _) k (.int _)⟩
  · cases hg
def gMul : D → D → Store → Option D
  | .int i, .int j, _ => if (-(2 ^ 64) < i ∧ i < 2 ^ 64) ∨ (-(2 ^ 64) < j ∧ j < 2 ^ 64) then some (.int (i * j)) else none
  | .lst l, .int j, _ => if 0 ≤ j ∧ j ≤ 1000 ∧ l.length ≤ 100 then some (.lst (List.replicate j.toNat l).flatten) else none
  | .tup l, .int j, _ => if l ≠ [] ∧ 2 ≤ j ∧ j ≤ 1000 ∧ l.length ≤ 100 then some (.tup (List.replicate j.toNat l).flatten) else none
  | _, _, _ => none
theorem o_mul : OpR X (binaryOp .Mult) (r2 X.K cl gMul) := by
  refine of2 (op_mul.or (op_rep.or op_repT)) fun x y H Q w S d e z k r1 r2 hg q => ?_
  cases d <;> cases e <;> simp only [gMul] at hg <;> try cases hg
  · cases r1; cases r2
    split at hg
    · rename_i hc
      cases hg
      exact .inl ⟨_, _, rfl, rfl, hc, q w _ H (Ext.refl _ _) k (.int _)⟩
    · cases hg
  · obtain ⟨a, vs, rfl, ha, ra⟩ := r1.tup_inv
    cases r2
    split at hg
    · rename_i j hc
      obtain ⟨h0, h1, h2, h3⟩ := hc
      cases hg
      refine .inr (.inr ⟨a, _, vs, rfl, rfl, k.sqT ha, fun e => ?_, h1, h2, by rw [ra.length]; omega, fun p hp => ?_⟩)
      · subst e; cases ra; exact h0 rfl
      · obtain ⟨e, o, r⟩ := k.layT hp (ra.flat _)
        exact q _ _ _ e o r
    · cases hg
  · obtain ⟨a, vs, rfl, ha, ra⟩ := r1.lst_inv
    cases r2
    split at hg
    · rename_i j hc
      obtain ⟨h1, h2, h3⟩ := hc
      cases hg
      refine .inr (.inl ⟨a, _, vs, rfl, rfl, k.sub _ _ ha, by omega, by omega, ?_, fun p hp => ?_⟩)
      · rw [ra.length]
        refine lim_le ?_
        exact Nat.le_trans (Nat.mul_le_mul h3 (show j.toNat ≤ 1000 by omega)) (by decide)
      · obtain ⟨e, o, r⟩ := k.layL hp (ra.flat j.toNat)
        exact q _ _ _ e o r
    · cases hg
end
end BW
namespace BW
open PySem L2
/-! ### data as the library's PyData -/
mutual
def toPy : D → PyData
  | .non => .none
  | .bl b => .bool b
  | .int i => .int i
  | .str x => .str x
  | .tup l => .tuple (toPys l)
  | .lst l => .list (toPys l)
  | .dic _ => .none
  | .scr ns => .list (ns.map .int)
  | .ref _ => .none
def toPys : List D → List PyData
  | [] => []
  | d :: l => toPy d :: toPys l
end
/-- no names, no dicts, at most n deep -/
def okD : Nat → D → Bool
  | _, .non => true
  | _, .bl _ => true
  | _, .int _ => true
  | _, .str x => PyData.strOk x
  | n + 1, .tup l => l.all (okD n)
  | n + 1, .lst l => l.all (okD n)
  | n + 1, .scr _ => true
  | _, _ => false
/-- == -/
def deq (a b : D) : Bool := PyData.eqv (toPy a) (toPy b)
def deqs (a b : List D) : Bool := PyData.eqvAll (toPys a) (toPys b)
theorem toPys_map : ∀ l : List D, toPys l = l.map toPy
  | [] => rfl
  | d :: l => by rw [toPys, toPys_map l]; rfl
theorem canLayAll_ints : ∀ ns : List Int, PyData.canLayAll0 (ns.map .int) = true
  | [] => rfl
  | n :: ns => by simp [PyData.canLayAll0, PyData.canLay0, canLayAll_ints ns]
theorem depthAll_ints : ∀ ns : List Int, PyData.depthAll (ns.map .int) ≤ 1
  | [] => by simp [PyData.depthAll]
  | n :: ns => by
    have := depthAll_ints ns
    simp only [List.map_cons, PyData.depthAll, PyData.depth]
    omega
theorem okD_lay : ∀ (n : Nat) (d : D), okD n d = true → (toPy d).canLay0 = true ∧ (toPy d).depth ≤ n + 1 := by
  have all : ∀ (n : Nat), (∀ d, okD n d = true → (toPy d).canLay0 = true ∧ (toPy d).depth ≤ n + 1) → ∀ l : List D, l.all (okD n) = true → PyData.canLayAll0 (toPys l) = true ∧ PyData.depthAll (toPys l) ≤ n + 1 := by
    intro n ih l
    induction l with
    | nil => intro _; simp [toPys, PyData.canLayAll0, PyData.depthAll]
    | cons d l il =>
      intro h
      simp only [List.all_cons, Bool.and_eq_true] at h
      obtain ⟨h1, h2⟩ := ih d h.1
      obtain ⟨h3, h4⟩ := il h.2
      simp only [toPys, PyData.canLayAll0, PyData.depthAll, h1, h3, Bool.and_self, true_and]
      omega
  intro n
  induction n with
  | zero =>
    intro d h
    cases d <;> simp_all [okD, toPy, PyData.canLay0, PyData.depth]
  | succ n ih =>
    intro d h
    cases d with
    | tup l =>
      obtain ⟨h1, h2⟩ := all n ih l (by simpa [okD] using h)
      simp only [toPy, PyData.canLay0, PyData.depth, h1, true_and]
      omega
    | lst l =>
      obtain ⟨h1, h2⟩ := all n ih l (by simpa [okD] using h)
      simp only [toPy, PyData.canLay0, PyData.depth, h1, true_and]
      omega
    | scr ns =>
      have := depthAll_ints ns
      simp only [toPy, PyData.canLay0, PyData.depth, canLayAll_ints, true_and]
      omega
    | _ => simp_all [okD, toPy, PyData.canLay0, PyData.depth]
theorem okD_shaped {n : Nat} {d : D} (h : okD n d = true) (hn : n ≤ 60) : SeqAt.shaped (toPy d) = true := by
  obtain ⟨h1, h2⟩ := okD_lay n d h
  unfold SeqAt.shaped
  rw [h1, Bool.true_and]
  exact decide_eq_true (by omega)
theorem dpAll_ints {K : PySem.W.Frag} {H : Hp} : ∀ ns : List Int, DpAll K H (ns.map V.int) (ns.map .int)
  | [] => .nil
  | n :: ns => .cons (.int n) (dpAll_ints ns)
section
variable {K : PySem.W.Frag} {cl : Str → Addr} {w : Wd} {S : Store} {H : Hp}
theorem Ok.dp (k : Ok K cl w S H) : ∀ (n : Nat) {v : V} {d : D}, R K w v d → okD n d = true → Dp K H v (toPy d) := by
  have all : ∀ n, (∀ {v : V} {d : D}, R K w v d → okD n d = true → Dp K H v (toPy d)) → ∀ {l : List D} {vs : List V}, RA K w vs l → l.all (okD n) = true → DpAll K H vs (toPys l) := by
    intro n ih l
    induction l with
    | nil => intro vs r _; cases r; exact .nil
    | cons d l il =>
      intro vs r h
      simp only [List.all_cons, Bool.and_eq_true] at h
      cases r with
      | cons r t => exact .cons (ih r h.1) (il t h.2)
  intro n
  induction n with
  | zero => intro v d r h; cases r <;> first | exact .non | exact .bl _ | exact .int _ | exact .str _ | (simp [okD] at h)
  | succ n ih =>
    intro v d r h
    cases r with
    | non => exact .non
    | bl b => exact .bl b
    | int i => exact .int i
    | str x => exact .str x
    | tup a b => exact .tup (k.sqT a) (all n ih b (by simpa [okD] using h))
    | lst a b => exact .lst (k.sqL a) (all n ih b (by simpa [okD] using h))
    | dic a b => simp [okD] at h
    | scr a => exact .lst (k.sub.seq a) (dpAll_ints _)
    | ref a => simp [okD] at h
end
section
variable {X : Cx} {cl : Str → Addr} {W : WX}
def gEq (neg : Bool) : D → D → Store → Option D := fun a b _ => if okD 12 a && okD 12 b then some (.bl (xor neg (deq a b))) else none
theorem o_eq (hu : X.A.units + 64 < cLine) : OpR X (compareOp .Eq) (r2 X.K cl (gEq false)) := by
  refine of2 (op_eqD hu) fun x y H Q w S d e z k r1 r2 hg q => ?_
  unfold gEq at hg
  split at hg
  · rename_i h
    rw [Bool.and_eq_true] at h
    cases hg
    rw [Bool.false_xor] at q
    exact ⟨_, _, k.dp 12 r1 h.1, k.dp 12 r2 h.2, okD_shaped h.1 (by decide), okD_shaped h.2 (by decide), q w _ H (Ext.refl _ _) k (.bl _)⟩
  · cases hg
theorem o_ne (hu : X.A.units + 64 < cLine) : OpR X (compareOp .NotEq) (r2 X.K cl (gEq true)) := by
  refine of2 (op_neD hu) fun x y H Q w S d e z k r1 r2 hg q => ?_
  unfold gEq at hg
  split at hg
  · rename_i h
    rw [Bool.and_eq_true] at h
    cases hg
    rw [Bool.true_xor] at q
    exact ⟨_, _, k.dp 12 r1 h.1, k.dp 12 r2 h.2, okD_shaped h.1 (by decide), okD_shaped h.2 (by decide), q w _ H (Ext.refl _ _) k (.bl _)⟩
  · cases hg
/-- the ints of a tuple -/
def ints? : List D → Option (List Int)
  | [] => some []
  | .int i :: l => (ints? l).map (i :: ·)
  | _ :: _ => none
theorem ints_ra {K : PySem.W.Frag} {w : Wd} : ∀ {l : List D} {vs : List V} {ns : List Int}, RA K w vs l → ints? l = some ns → vs = ns.map V.int
  | [], _, _, .nil, e => by cases e; rfl
  | .int i :: l, _, ns, .cons r t, e => by
    simp only [ints?, Option.map_eq_some_iff] at e
    obtain ⟨ms, e1, rfl⟩ := e
    cases r
    rw [ints_ra t e1]
    rfl
def gLt : D → D → Store → Option D
  | .int i, .int j, _ => some (.bl (decide (i < j)))
  | .tup a, .tup b, _ => match ints? a, ints? b with
    | some ns, some ms => some (.bl (HT.lexLt ns ms))
    | _, _ => none
  | _, _, _ => none
theorem o_lt (hu : X.A.units + 64 < cLine) : OpR X (compareOp .Lt) (r2 X.K cl gLt) := by
  refine of2 (op_lt.or (op_ltT (Nat.lt_of_le_of_lt (Nat.le_add_right _ _) hu))) fun x y H Q w S d e z k r1 r2 hg q => ?_
  cases d <;> cases e <;> simp only [gLt] at hg <;> try cases hg
  · cases r1; cases r2
    exact .inl ⟨_, _, rfl, rfl, q w _ H (Ext.refl _ _) k (.bl _)⟩
  · obtain ⟨a, vs, rfl, ha, ra⟩ := r1.tup_inv
    obtain ⟨b, us, rfl, hb, rb⟩ := r2.tup_inv
    split at hg
    · rename_i ns ms e1 e2
      cases hg
      have h1 := ints_ra ra e1
      have h2 := ints_ra rb e2
      subst h1 h2
      exact .inr ⟨a, b, ns, ms, rfl, rfl, k.sqT ha, k.sqT hb, q w _ H (Ext.refl _ _) k (.bl _)⟩
    · cases hg
def gI2 (f : Int → Int → Bool) : D → D → Store → Option D
  | .int i, .int j, _ => some (.bl (f i j))
  | _, _, _ => none
theorem oI2 {op : CmpOp} {f : Int → Int → Bool} (h : OpR X (compareOp op) (rI0 fun i j => .bl (f i j))) : OpR X (compareOp op) (r2 X.K cl (gI2 f)) := by
  refine of2 h fun x y H Q w S d e z k r1 r2 hg q => ?_
  cases d <;> cases e <;> simp only [gI2] at hg <;> try cases hg
  cases r1; cases r2
  exact ⟨_, _, rfl, rfl, q w _ H (Ext.refl _ _) k (.bl _)⟩
abbrev gLe := gI2 fun i j => decide (i ≤ j)
abbrev gGt := gI2 fun i j => decide (j < i)
abbrev gGe := gI2 fun i j => decide (j ≤ i)
theorem o_le : OpR X (compareOp .LtE) (r2 X.K cl gLe) := oI2 op_le
theorem o_gt : OpR X (compareOp .Gt) (r2 X.K cl gGt) := oI2 op_gt
theorem o_ge : OpR X (compareOp .GtE) (r2 X.K cl gGe) := oI2 op_ge
/-- is None, is True, is False -/
def isNonD : D → Bool
  | .non => true
  | _ => false
def gIs (neg : Bool) : D → D → Store → Option D
  | d, .non, _ => some (.bl (xor neg (isNonD d)))
  | .bl a, .bl b, _ => some (.bl (xor neg (decide (a = b))))
  | _, _, _ => none
theorem isNon_v {K : PySem.W.Frag} {w : Wd} {v : V} {d : D} (r : R K w v d) : decide (v = .non) = isNonD d := by
  cases r <;> first | rfl | (exact decide_eq_false (fun e => nomatch e))
theorem o_is : OpR X (compareOp .Is) (r2 X.K cl (gIs false)) := by
  refine of2 (op_isN.or op_isBl) fun x y H Q w S d e z k r1 r2 hg q => ?_
  cases e <;> first
    | (simp only [gIs] at hg
       cases hg
       cases r2
       rw [Bool.false_xor] at q
       exact .inl ⟨rfl, by rw [isNon_v r1]; exact q w _ H (Ext.refl _ _) k (.bl _)⟩)
    | (cases d <;> simp only [gIs] at hg <;> try cases hg
       all_goals (cases r1; cases r2
                  rw [Bool.false_xor] at q
                  exact .inr ⟨_, _, rfl, rfl, q w _ H (Ext.refl _ _) k (.bl _)⟩))
theorem o_isnot : OpR X (compareOp .IsNot) (r2 X.K cl (gIs true)) := by
  refine of2 (op_notN.or op_notBl) fun x y H Q w S d e z k r1 r2 hg q => ?_
  cases e <;> first
    | (simp only [gIs] at hg
       cases hg
       cases r2
       rw [Bool.true_xor] at q
       exact .inl ⟨rfl, by rw [isNon_v r1]; exact q w _ H (Ext.refl _ _) k (.bl _)⟩)
    | (cases d <;> simp only [gIs] at hg <;> try cases hg
       all_goals (cases r1; cases r2
                  rw [Bool.true_xor] at q
                  exact .inr ⟨_, _, rfl, rfl, q w _ H (Ext.refl _ _) k (.bl _)⟩))
end
end BW
namespace BW
open PySem L2
section
variable {X : Cx}
/-! ### in, over tuples -/
def rInT (K : PySem.W.Frag) (neg : Bool) : R2 := fun x y H Q => ∃ d ds, Dp K H x d ∧ Dp K H y (.tuple ds) ∧ SeqAt.shaped d = true ∧ SeqAt.shaped (.tuple ds) = true ∧ Q (.bl (xor neg (ds.any fun z => PyData.eqv z d))) H
theorem op_inT (hu : X.A.units + 65 < cLine) : OpR X (compareOp .In) (rInT X.K false) := by
  intro pins s σ H x y v u Q I rx ry h
  obtain ⟨d, ds, hd, he, sd, se, q⟩ := h
  obtain ⟨as, r1⟩ := Dp.reads I d x v hd rx
  obtain ⟨bs, r2⟩ := Dp.reads I (.tuple ds) y u he ry
  rw [Bool.false_xor] at q
  exact SeqAt.in_tuple_reads r2 r1 (SeqAt.canLay_of_shaped se) (SeqAt.canLay_of_shaped sd) (PyProof.Rows.room_in_shaped sd hu) ⟨.bl _, H, I, rfl, q⟩
theorem op_notInT (hu : X.A.units + 65 < cLine) : OpR X (compareOp .NotIn) (rInT X.K true) := by
  intro pins s σ H x y v u Q I rx ry h
  obtain ⟨d, ds, hd, he, sd, se, q⟩ := h
  obtain ⟨as, r1⟩ := Dp.reads I d x v hd rx
  obtain ⟨bs, r2⟩ := Dp.reads I (.tuple ds) y u he ry
  rw [Bool.true_xor] at q
  exact SeqAt.notIn_tuple_reads r2 r1 (SeqAt.canLay_of_shaped se) (SeqAt.canLay_of_shaped sd) (PyProof.Rows.room_in_shaped sd hu) ⟨.bl _, H, I, rfl, q⟩
end
theorem any_toPys (d : D) : ∀ l : List D, (toPys l).any (fun z => PyData.eqv z (toPy d)) = l.any fun z => deq z d
  | [] => rfl
  | e :: l => by simp only [toPys, List.any_cons, any_toPys d l]; rfl
section
variable {X : Cx} {cl : Str → Addr} {W : WX}
def gIn (neg : Bool) : D → D → Store → Option D
  | d, .lst l, _ => if okD 12 d && okD 12 (.lst l) then some (.bl (xor neg (l.any fun z => deq z d))) else none
  | d, .tup l, _ => if okD 12 d && okD 12 (.tup l) then some (.bl (xor neg (l.any fun z => deq z d))) else none
  | .str a, .str b, _ => match a.cps.toList with
    | [c] => some (.bl (xor neg (decide (c ∈ b.cps.toList))))
    | _ => none
  | _, _, _ => none
theorem str_one {a : Str} {c : Nat} (h : a.cps.toList = [c]) : a = ⟨#[c]⟩ := by
  obtain ⟨⟨l⟩⟩ := a
  simp only at h
  subst h
  rfl
theorem o_in (hu : X.A.units + 65 < cLine) : OpR X (compareOp .In) (r2 X.K cl (gIn false)) := by
  refine of2 ((op_inD hu).or ((op_inT hu).or op_in_sign)) fun x y H Q w S d e z k r1 r2 hg q => ?_
  cases e <;> try (cases d <;> simp only [gIn] at hg <;> cases hg)
  · cases d <;> simp only [gIn] at hg <;> try cases hg
    cases r1; cases r2
    split at hg
    · rename_i a b c hc
      cases hg
      rw [Bool.false_xor] at q
      exact .inr (.inr ⟨c, _, by rw [str_one hc], rfl, q w _ H (Ext.refl _ _) k (.bl _)⟩)
    · cases hg
  · rename_i l
    have hg : (if okD 12 d && okD 12 (.tup l) then some (D.bl (xor false (l.any fun z => deq z d))) else none) = some z := by cases d <;> exact hg
    split at hg
    · rename_i h
      rw [Bool.and_eq_true] at h
      cases hg
      refine .inr (.inl ⟨_, toPys l, k.dp 12 r1 h.1, k.dp 12 r2 h.2, okD_shaped h.1 (by decide), okD_shaped (d := .tup l) h.2 (by decide), ?_⟩)
      rw [any_toPys]
      exact q w _ H (Ext.refl _ _) k (.bl _)
    · cases hg
  · rename_i l
    have hg : (if okD 12 d && okD 12 (.lst l) then some (D.bl (xor false (l.any fun z => deq z d))) else none) = some z := by cases d <;> exact hg
    split at hg
    · rename_i h
      rw [Bool.and_eq_true] at h
      cases hg
      rw [Bool.false_xor] at q
      refine .inl ⟨_, toPys l, k.dp 12 r1 h.1, k.dp 12 r2 h.2, okD_shaped h.1 (by decide), okD_shaped (d := .lst l) h.2 (by decide), ?_⟩
      rw [any_toPys]
      exact q w _ H (Ext.refl _ _) k (.bl _)
    · cases hg
theorem o_notin (hu : X.A.units + 65 < cLine) : OpR X (compareOp .NotIn) (r2 X.K cl (gIn true)) := by
  refine of2 ((op_notInD hu).or ((op_notInT hu).or op_notIn_sign)) fun x y H Q w S d e z k r1 r2 hg q => ?_
  cases e <;> try (cases d <;> simp only [gIn] at hg <;> cases hg)
  · cases d <;> simp only [gIn] at hg <;> try cases hg
    cases r1; cases r2
    split at hg
    · rename_i a b c hc
      cases hg
      rw [Bool.true_xor] at q
      exact .inr (.inr ⟨c, _, by rw [str_one hc], rfl, q w _ H (Ext.refl _ _) k (.bl _)⟩)
    · cases hg
  · rename_i l
    have hg : (if okD 12 d && okD 12 (.tup l) then some (D.bl (xor true (l.any fun z => deq z d))) else none) = some z := by cases d <;> exact hg
    split at hg
    · rename_i h
      rw [Bool.and_eq_true] at h
      cases hg
      refine .inr (.inl ⟨_, toPys l, k.dp 12 r1 h.1, k.dp 12 r2 h.2, okD_shaped h.1 (by decide), okD_shaped (d := .tup l) h.2 (by decide), ?_⟩)
      rw [any_toPys]
      exact q w _ H (Ext.refl _ _) k (.bl _)
    · cases hg
  · rename_i l
    have hg : (if okD 12 d && okD 12 (.lst l) then some (D.bl (xor true (l.any fun z => deq z d))) else none) = some z := by cases d <;> exact hg
    split at hg
    · rename_i h
      rw [Bool.and_eq_true] at h
      cases hg
      rw [Bool.true_xor] at q
      refine .inl ⟨_, toPys l, k.dp 12 r1 h.1, k.dp 12 r2 h.2, okD_shaped h.1 (by decide), okD_shaped (d := .lst l) h.2 (by decide), ?_⟩
      rw [any_toPys]
      exact q w _ H (Ext.refl _ _) k (.bl _)
    · cases hg

/-! ### chains -/
def fChain (g g' : D → D → Store → Option D) (fa fb fc : Env → Store → Res D) : Env → Store → Res D := fun ρ S =>
  (fa ρ S).bind fun a S1 => (fb ρ S1).bind fun b S2 => match g a b S2 with
    | some (.bl true) => (fc ρ S2).bind fun c S3 => Res.of S3 (g' b c S3)
    | some (.bl false) => .ok (.bl false) S2
    | _ => .bad
theorem de_chain {op op' : CmpOp} {a b c : Expr} {pos : Pos} {g g' : D → D → Store → Option D} {fa fb fc : Env → Store → Res D} (ho : OpR X (compareOp op) (r2 X.K cl g)) (ho' : OpR X (compareOp op') (r2 X.K cl g'))
    (ha : DE X cl W a fa) (hb : DE X cl W b fb) (hc : DE X cl W c fc) (hm : lastMarks [op, op'] [b, c] = false := by with_unfolding_all rfl) : DE X cl W (.Compare a [op, op'] [b, c] pos) (fChain g g' fa fb fc) := by
  refine PE.imp (pe_chain ho ho' ha hb hc hm) fun σ H Q ⟨w, ρ, S, o, n, p⟩ => ?_
  refine tG.at o n (Post.bind p fun a S1 w1 x H1 e1 o1 r1 p1 => tG.at o1 (n.mono e1) (Post.bind p1 fun b S2 w2 y H2 e2 o2 r2 p2 => ?_))
  have n2 := (n.mono e1).mono e2
  split at p2
  · rename_i hg
    refine ⟨w2, S2, a, b, _, o2, r1.mono e2.le, r2, hg, fun w3 v H3 e3 o3 r3 => ⟨true, r3.bl_inv, ?_⟩⟩
    rw [if_pos rfl]
    refine tG.at o3 (n2.mono e3) (Post.bind (Post.mono e3 p2) fun c S4 w4 z H4 e4 o4 r4 p4 => ?_)
    cases hg' : g' b c S4 with
    | none => rw [hg'] at p4; exact p4.elim
    | some q =>
      rw [hg'] at p4
      exact ⟨w4, S4, b, c, q, o4, (r2.mono e3.le).mono e4.le, r4, hg', fun w' v H' e' o' r' => p4.okT e' o' r'⟩
  · rename_i hg
    refine ⟨w2, S2, a, b, _, o2, r1.mono e2.le, r2, hg, fun w3 v H3 e3 o3 r3 => ⟨false, r3.bl_inv, ?_⟩⟩
    rw [if_neg Bool.false_ne_true]
    exact p2.okT e3 o3 (.bl false)
  · exact p2.elim

/-! ### tests -/
def fB (f : Env → Store → Res D) : Env → Store → Res Bool := fun ρ S => (f ρ S).bind fun d S1 => match d with
  | .bl b => .ok b S1
  | _ => .bad
def fOfB (f : Env → Store → Res Bool) : Env → Store → Res D := fun ρ S => (f ρ S).bind fun b S1 => .ok (.bl b) S1
theorem t_test {f : Env → Store → Res D} {σ : L2.St} {H : Hp} {Q : Bool → Hp → Prop} (h : tG X.K cl W RB (fB f) σ H Q) : tG X.K cl W (R X.K) f σ H fun x H' => ∃ k, x = .bl k ∧ Q k H' := by
  obtain ⟨w, ρ, S, o, n, p⟩ := h
  refine tG.at o n (Post.bind p fun d S1 w1 x H1 e1 o1 r1 p1 => ?_)
  split at p1
  · rename_i b
    exact ⟨b, r1.bl_inv, p1.here o1 rfl⟩
  · exact p1.elim
theorem dt_cmp {op : CmpOp} {a b : Expr} {pos : Pos} {g : D → D → Store → Option D} {fa fb : Env → Store → Res D} (ho : OpR X (compareOp op) (r2 X.K cl g)) (ha : DE X cl W a fa) (hb : DE X cl W b fb) (hm : behindInMarks op b = false) : DT X cl W (.Compare a [op] [b] pos) (fB (f2 g fa fb)) := by
  refine PT.imp (pt_cmpR ho ha hb hm) fun σ H Q h => t2_of ?_
  have := t_test h
  exact this
theorem dt_val {e : Expr} {f : Env → Store → Res D} (h : DE X cl W e f) (he : ∀ whole, isTrue e X.env whole = (do let v ← whole; standAt e.pos; holding [v] (truthy v)) := by intro _; rfl) : DT X cl W e (fB f) :=
  PT.imp (pt_val h he) fun σ H Q h => t_test h
theorem dt_chain {op op' : CmpOp} {a b c : Expr} {pos : Pos} {g g' : D → D → Store → Option D} {fa fb fc : Env → Store → Res D} (ho : OpR X (compareOp op) (r2 X.K cl g)) (ho' : OpR X (compareOp op') (r2 X.K cl g'))
    (ha : DE X cl W a fa) (hb : DE X cl W b fb) (hc : DE X cl W c fc) (hm : lastMarks [op, op'] [b, c] = false := by with_unfolding_all rfl) : DT X cl W (.Compare a [op, op'] [b, c] pos) (fB (fChain g g' fa fb fc)) := by
  refine PT.imp (pt_chain ho ho' ha hb hc hm) fun σ H Q h => ?_
  obtain ⟨w, ρ, S, o, n, p⟩ := t_test h
  refine tG.at o n (Post.bind p fun a S1 w1 x H1 e1 o1 r1 p1 => tG.at o1 (n.mono e1) (Post.bind p1 fun b S2 w2 y H2 e2 o2 r2 p2 => ?_))
  have n2 := (n.mono e1).mono e2
  split at p2
  · rename_i hg
    refine ⟨w2, S2, a, b, _, o2, r1.mono e2.le, r2, hg, fun w3 v H3 e3 o3 r3 => ⟨true, r3.bl_inv, ?_⟩⟩
    rw [if_pos rfl]
    refine tG.at o3 (n2.mono e3) (Post.bind (Post.mono e3 p2) fun c S4 w4 z H4 e4 o4 r4 p4 => ?_)
    cases hg' : g' b c S4 with
    | none => rw [hg'] at p4; exact p4.elim
    | some q =>
      rw [hg'] at p4
      exact ⟨w4, S4, b, c, q, o4, (r2.mono e3.le).mono e4.le, r4, hg', fun w' v H' e' o' r' => p4.okT e' o' r'⟩
  · rename_i hg
    refine ⟨w2, S2, a, b, _, o2, r1.mono e2.le, r2, hg, fun w3 v H3 e3 o3 r3 => ⟨false, r3.bl_inv, ?_⟩⟩
    rw [if_neg Bool.false_ne_true]
    exact p2.okT e3 o3 (.bl false)
  · exact p2.elim
def fAnd (f g : Env → Store → Res Bool) : Env → Store → Res Bool := fun ρ S => (f ρ S).bind fun b S1 => if b = true then g ρ S1 else .ok false S1
def fOr (f g : Env → Store → Res Bool) : Env → Store → Res Bool := fun ρ S => (f ρ S).bind fun b S1 => if b = true then .ok true S1 else g ρ S1
def fNot (f : Env → Store → Res Bool) : Env → Store → Res Bool := fun ρ S => (f ρ S).bind fun b S1 => .ok (!b) S1
variable {a b : Expr} {rest : List Expr} {pos : Pos} {f g : Env → Store → Res Bool}
theorem dw_and1 (h : DT X cl W a f) : DW X cl W (.BoolOp .And [a] pos) f := pw_and1 h
theorem dw_or1 (h : DT X cl W a f) : DW X cl W (.BoolOp .Or [a] pos) f := pw_or1 h
theorem dw_and (h : DT X cl W a f) (t : DW X cl W (.BoolOp .And (b :: rest) pos) g) : DW X cl W (.BoolOp .And (a :: b :: rest) pos) (fAnd f g) := by
  refine PW.imp (pw_and h t) fun σ H Q ⟨w, ρ, S, o, n, p⟩ => tG.at o n (Post.bind p fun c S1 w1 x H1 e1 o1 r1 p1 => ?_)
  cases (show x = c from r1)
  cases c with
  | true => rw [if_pos rfl] at p1 ⊢; exact tG.at o1 (n.mono e1) p1
  | false => rw [if_neg Bool.false_ne_true] at p1 ⊢; exact p1.here o1 rfl
theorem dw_or (h : DT X cl W a f) (t : DW X cl W (.BoolOp .Or (b :: rest) pos) g) : DW X cl W (.BoolOp .Or (a :: b :: rest) pos) (fOr f g) := by
  refine PW.imp (pw_or h t) fun σ H Q ⟨w, ρ, S, o, n, p⟩ => tG.at o n (Post.bind p fun c S1 w1 x H1 e1 o1 r1 p1 => ?_)
  cases (show x = c from r1)
  cases c with
  | true => rw [if_pos rfl] at p1 ⊢; exact p1.here o1 rfl
  | false => rw [if_neg Bool.false_ne_true] at p1 ⊢; exact tG.at o1 (n.mono e1) p1
theorem DW.pt {e : Expr} (h : DW X cl W e f) : DT X cl W e f := PW.pt h
theorem dt_not (h : DT X cl W a f) : DT X cl W (.UnaryOp .Not a pos) (fNot f) := by
  refine PT.imp (pt_not h) fun σ H Q ⟨w, ρ, S, o, n, p⟩ => tG.at o n (Post.bind p fun c S1 w1 x H1 e1 o1 r1 p1 => ?_)
  cases (show x = c from r1)
  exact p1.here o1 rfl
variable {fa fb : Env → Store → Res D}
def vAnd (f g : Env → Store → Res D) : Env → Store → Res D := fun ρ S => (f ρ S).bind fun d S1 => match d with
  | .bl true => g ρ S1
  | .bl false => .ok (.bl false) S1
  | _ => .bad
def vOr (f g : Env → Store → Res D) : Env → Store → Res D := fun ρ S => (f ρ S).bind fun d S1 => match d with
  | .bl true => .ok (.bl true) S1
  | .bl false => g ρ S1
  | _ => .bad
def vNot (f : Env → Store → Res D) : Env → Store → Res D := fun ρ S => (f ρ S).bind fun d S1 => match d with
  | .bl b => .ok (.bl (!b)) S1
  | _ => .bad
theorem de_one {op} (h : DE X cl W a fa) : DE X cl W (.BoolOp op [a] pos) fa := pe_one h
theorem de_and (h : DE X cl W a fa) (t : DE X cl W (.BoolOp .And (b :: rest) pos) fb) : DE X cl W (.BoolOp .And (a :: b :: rest) pos) (vAnd fa fb) := by
  refine PE.imp (pe_and h t) fun σ H Q ⟨w, ρ, S, o, n, p⟩ => tG.at o n (Post.bind p fun c S1 w1 x H1 e1 o1 r1 p1 => ?_)
  split at p1
  · refine ⟨true, r1.bl_inv, ?_⟩
    rw [if_pos rfl]
    exact tG.at o1 (n.mono e1) p1
  · refine ⟨false, r1.bl_inv, ?_⟩
    rw [if_neg Bool.false_ne_true]
    exact p1.here o1 (.bl false)
  · exact p1.elim
theorem de_or (h : DE X cl W a fa) (t : DE X cl W (.BoolOp .Or (b :: rest) pos) fb) : DE X cl W (.BoolOp .Or (a :: b :: rest) pos) (vOr fa fb) := by
  refine PE.imp (pe_or h t) fun σ H Q ⟨w, ρ, S, o, n, p⟩ => tG.at o n (Post.bind p fun c S1 w1 x H1 e1 o1 r1 p1 => ?_)
  split at p1
  · refine ⟨true, r1.bl_inv, ?_⟩
    rw [if_pos rfl]
    exact p1.here o1 (.bl true)
  · refine ⟨false, r1.bl_inv, ?_⟩
    rw [if_neg Bool.false_ne_true]
    exact tG.at o1 (n.mono e1) p1
  · exact p1.elim
theorem de_not (h : DE X cl W a fa) : DE X cl W (.UnaryOp .Not a pos) (vNot fa) := by
  refine PE.imp (pe_not h) fun σ H Q ⟨w, ρ, S, o, n, p⟩ => tG.at o n (Post.bind p fun c S1 w1 x H1 e1 o1 r1 p1 => ?_)
  split at p1
  · rename_i b
    exact ⟨b, r1.bl_inv, p1.here o1 (.bl _)⟩
  · exact p1.elim
def fNeg (f : Env → Store → Res D) : Env → Store → Res D := fun ρ S => (f ρ S).bind fun d S1 => match d with
  | .int i => .ok (.int (-i)) S1
  | _ => .bad
theorem de_neg (h : DE X cl W a fa) : DE X cl W (.UnaryOp .USub a pos) (fNeg fa) := by
  refine PE.imp (pe_un un_neg h) fun σ H Q ⟨w, ρ, S, o, n, p⟩ => tG.at o n (Post.bind p fun c S1 w1 x H1 e1 o1 r1 p1 => ?_)
  split at p1
  · rename_i i
    exact ⟨i, r1.int_inv, p1.here o1 (.int _)⟩
  · exact p1.elim
def fIf (t : Env → Store → Res Bool) (f g : Env → Store → Res D) : Env → Store → Res D := fun ρ S => (t ρ S).bind fun b S1 => if b = true then f ρ S1 else g ρ S1
theorem de_ifExp {c : Expr} (hc : DT X cl W c f) (ha : DE X cl W a fa) (hb : DE X cl W b fb) : DE X cl W (.IfExp c a b pos) (fIf f fa fb) := by
  refine PE.imp (pe_ifExp hc ha hb) fun σ H Q ⟨w, ρ, S, o, n, p⟩ => tG.at o n (Post.bind p fun c S1 w1 x H1 e1 o1 r1 p1 => ?_)
  cases (show x = c from r1)
  cases c with
  | true => rw [if_pos rfl] at p1 ⊢; exact tG.at o1 (n.mono e1) p1
  | false => rw [if_neg Bool.false_ne_true] at p1 ⊢; exact tG.at o1 (n.mono e1) p1
end
end BW
namespace BW
open PySem L2
/-! ### dicts by keys -/
def keyD : D → Option Key
  | .int i => some (.inl i)
  | .str x => some (.inr x)
  | _ => none
def kD : Key → D
  | .inl i => .int i
  | .inr x => .str x
theorem kD_R {K : PySem.W.Frag} {w : Wd} (k : Key) : R K w (kV k) (kD k) := by
  cases k with
  | inl i => exact .int i
  | inr x => exact .str x
def valD (kvs : List (Key × D)) (k : Key) : Option D := (kvs.find? fun kv => decide (kv.1 = k)).map (·.2)
def putD (kvs : List (Key × D)) (k : Key) (v : D) : List (Key × D) :=
  if (kvs.any fun kv => decide (kv.1 = k)) = true then kvs.map fun kv => if kv.1 = k then (kv.1, v) else kv else kvs ++ [(k, v)]
section
variable {K : PySem.W.Frag} {w : Wd}
theorem keyD_v {v : V} {d : D} {k : Key} (r : R K w v d) (h : keyD d = some k) : v = kV k := by
  cases r <;> simp only [keyD] at h <;> cases h <;> rfl
theorem RK.val {k : Key} : ∀ {vs : List (Key × V)} {ds : List (Key × D)}, RK K w vs ds → (valD ds k = none ∧ valV vs k = none) ∨ ∃ v d, valD ds k = some d ∧ valV vs k = some v ∧ R K w v d
  | _, _, .nil => .inl ⟨rfl, rfl⟩
  | _, _, .cons (k := j) (v := v) (d := d) r t => by
    by_cases e : j = k
    · refine .inr ⟨v, d, ?_, ?_, r⟩
      · simp [valD, List.find?_cons, e]
      · simp [valV, List.find?_cons, e]
    · rcases RK.val (k := k) t with ⟨h1, h2⟩ | ⟨v', d', h1, h2, h3⟩
      · refine .inl ⟨?_, ?_⟩
        · simpa [valD, List.find?_cons, e] using h1
        · simpa [valV, List.find?_cons, e] using h2
      · refine .inr ⟨v', d', ?_, ?_, h3⟩
        · simpa [valD, List.find?_cons, e] using h1
        · simpa [valV, List.find?_cons, e] using h2
theorem RK.any {k : Key} : ∀ {vs : List (Key × V)} {ds : List (Key × D)}, RK K w vs ds → (vs.any fun kv => decide (kv.1 = k)) = ds.any fun kv => decide (kv.1 = k)
  | _, _, .nil => rfl
  | _, _, .cons r t => by simp only [List.any_cons, RK.any t]
theorem RK.map {k : Key} {v : V} {d : D} (r : R K w v d) : ∀ {vs : List (Key × V)} {ds : List (Key × D)}, RK K w vs ds → RK K w (vs.map fun kv => if kv.1 = k then (kv.1, v) else kv) (ds.map fun kv => if kv.1 = k then (kv.1, d) else kv)
  | _, _, .nil => .nil
  | _, _, .cons (k := j) q t => by
    simp only [List.map_cons]
    by_cases e : j = k
    · rw [if_pos e, if_pos e]; exact .cons r (RK.map r t)
    · rw [if_neg e, if_neg e]; exact .cons q (RK.map r t)
theorem RK.snoc {k : Key} {v : V} {d : D} (r : R K w v d) : ∀ {vs : List (Key × V)} {ds : List (Key × D)}, RK K w vs ds → RK K w (vs ++ [(k, v)]) (ds ++ [(k, d)])
  | _, _, .nil => .cons r .nil
  | _, _, .cons q t => .cons q (RK.snoc r t)
theorem RK.put {k : Key} {v : V} {d : D} (r : R K w v d) {vs : List (Key × V)} {ds : List (Key × D)} (t : RK K w vs ds) : RK K w (putK vs k v) (putD ds k d) := by
  unfold putK putD
  rw [t.any]
  split
  · exact RK.map r t
  · exact RK.snoc r t
theorem RK.length : ∀ {vs : List (Key × V)} {ds : List (Key × D)}, RK K w vs ds → vs.length = ds.length
  | _, _, .nil => rfl
  | _, _, .cons _ t => by simp [RK.length t]
theorem RK.keys : ∀ {vs : List (Key × V)} {ds : List (Key × D)}, RK K w vs ds → vs.map (·.1) = ds.map (·.1)
  | _, _, .nil => rfl
  | _, _, .cons _ t => by simp [RK.keys t]
end
section
variable {X : Cx} {cl : Str → Addr} {W : WX}
/-- d[k], the key there, by values -/
theorem ix_dict (hu : X.A.units + 1 < cLine) : IxR X (fun x y H Q => ∃ a v, x = .ref a ∧ DGet H a y (some v) ∧ Q v H) := by
  intro value slice pins s σ H x y v u Q I rx ry h hs
  obtain ⟨a, z, rfl, g, q⟩ := h
  cases rx
  exact PyProof.Rows.tail_any (ops := [.ref a, u]) (dict_typeIs I g) PySem.F.slot_dict_getitem.lookup (d_getItem hu I g ry fun w' s3 I3 rw' => ⟨z, H, I3, rw', q⟩) hs
def gIx : D → D → Store → Option D
  | .tup l, .int i, _ => atI l i
  | .lst l, .int i, _ => atI l i
  | .str x, .int i, _ => if x.length ≤ LIM then (atI x.cps.toList i).map fun c => .str ⟨#[c]⟩ else none
  | .scr ns, .int i, _ => (atI ns i).map .int
  | .dic kvs, d, _ => (keyD d).bind fun k => valD kvs k
  | .ref n, d, S => match S[n]? with
    | some (.lst l) => match d with
      | .int i => atI l i
      | _ => none
    | some (.dic kvs) => (keyD d).bind fun k => valD kvs k
    | _ => none
  | _, _, _ => none
theorem RA.atI {K : PySem.W.Frag} {w : Wd} {vs : List V} {l : List D} {i : Int} {d : D} (r : RA K w vs l) (h : L2.atI l i = some d) : ∃ v, L2.atI vs i = some v ∧ R K w v d := by
  unfold L2.atI at h ⊢
  rw [r.length]
  cases e : ixN l.length i with
  | none => rw [e] at h; cases h
  | some j =>
    rw [e] at h
    exact r.get h
theorem IxR.imp {r r' : R2} (h : IxR X r) (i : ∀ x y H Q, r' x y H Q → r x y H Q) : IxR X r' := by
  intro value slice pins s σ H x y v u Q I rx ry q hs
  exact h value slice pins s σ H x y v u Q I rx ry (i x y H Q q) hs
theorem atI_map {α β : Type} (f : α → β) (l : List α) (i : Int) : L2.atI (l.map f) i = (L2.atI l i).map f := by
  unfold L2.atI
  rw [List.length_map]
  cases ixN l.length i <;> simp
theorem i_ix (hu : X.A.units + 1 < cLine) : IxR X (r2 X.K cl gIx) := by
  refine IxR.imp (ix_list.or (ix_tup.or (ix_str.or (ix_dict hu)))) fun x y H Q ⟨w, S, d, e, z, k, r1, r2, hg, q⟩ => ?_
  have dk : ∀ {a : Addr} {vs : List (Key × V)} {kvs : List (Key × D)}, Rd H a (.dK vs) → RK X.K w vs kvs → ((keyD e).bind fun k => valD kvs k) = some z → ∃ b v, V.ref a = .ref b ∧ DGet H b y (some v) ∧ Q v H := by
    intro a vs kvs ha ra hz
    cases hk : keyD e with
    | none => rw [hk] at hz; cases hz
    | some kk =>
      rw [hk] at hz
      have ey := keyD_v r2 hk
      subst ey
      rcases ra.val (k := kk) with ⟨h1, _⟩ | ⟨v, d', h1, h2, h3⟩
      · have hz : valD kvs kk = some z := hz
        rw [h1] at hz; cases hz
      · have hz : valD kvs kk = some z := hz
        rw [h1] at hz; cases hz
        exact ⟨a, v, rfl, .inl ⟨vs, kk, ha, rfl, h2.symm⟩, q w v H (Ext.refl _ _) k h3⟩
  cases d with
  | tup l =>
    obtain ⟨a, vs, rfl, ha, ra⟩ := r1.tup_inv
    cases e <;> simp only [gIx] at hg <;> try cases hg
    rename_i i
    cases r2
    obtain ⟨v, hv, rv⟩ := ra.atI hg
    exact .inr (.inl ⟨a, vs, i, v, rfl, rfl, k.sqT ha, hv, q w v H (Ext.refl _ _) k rv⟩)
  | lst l =>
    obtain ⟨a, vs, rfl, ha, ra⟩ := r1.lst_inv
    cases e <;> simp only [gIx] at hg <;> try cases hg
    rename_i i
    cases r2
    obtain ⟨v, hv, rv⟩ := ra.atI hg
    exact .inl ⟨a, vs, i, v, rfl, rfl, k.sqL ha, hv, q w v H (Ext.refl _ _) k rv⟩
  | str s =>
    cases r1
    cases e <;> simp only [gIx] at hg <;> try cases hg
    rename_i i
    cases r2
    split at hg
    · rename_i hl
      cases hc : L2.atI s.cps.toList i with
      | none => rw [hc] at hg; cases hg
      | some c =>
        rw [hc] at hg
        cases hg
        exact .inr (.inr (.inl ⟨s, i, c, rfl, rfl, lim_le hl, hc, q w _ H (Ext.refl _ _) k (.str _)⟩))
    · cases hg
  | scr ns =>
    obtain ⟨a, rfl, ha⟩ := r1.scr_inv
    cases e <;> simp only [gIx] at hg <;> try cases hg
    rename_i i
    cases r2
    cases hc : L2.atI ns i with
    | none => rw [hc] at hg; cases hg
    | some c =>
      rw [hc] at hg
      cases hg
      exact .inl ⟨a, _, i, .int c, rfl, rfl, k.sub.seq ha, by rw [atI_map, hc]; rfl, q w _ H (Ext.refl _ _) k (.int _)⟩
  | dic kvs =>
    obtain ⟨a, vs, rfl, ha, ra⟩ := r1.dic_inv
    exact .inr (.inr (.inr (dk (Rd.mono k.sub ha) ra (by cases e <;> exact hg))))
  | ref n =>
    obtain ⟨rfl, hn⟩ := r1.ref_inv
    have hg : (match S[n]? with
      | some (.lst l) => match e with
        | .int i => L2.atI l i
        | _ => none
      | some (.dic kvs) => (keyD e).bind fun k => valD kvs k
      | _ => none) = some z := by cases e <;> exact hg
    split at hg
    · rename_i l hc
      obtain ⟨_, vs, ha, ra⟩ := k.cell n _ hc
      split at hg
      · rename_i i r2 dk hg0
        cases r2
        obtain ⟨v, hv, rv⟩ := ra.atI hg
        exact .inl ⟨_, vs, i, v, rfl, rfl, SqL.of ha, hv, q w v H (Ext.refl _ _) k rv⟩
      · cases hg
    · rename_i kvs hc
      obtain ⟨_, vs, ha, ra⟩ := k.cell n _ hc
      exact .inr (.inr (.inr (dk (.inl ha) ra hg)))
    · cases hg
  | _ => cases e <;> simp only [gIx] at hg <;> cases hg
theorem de_ix {a b : Expr} {pos : Pos} {fa fb : Env → Store → Res D} (hu : X.A.units + 1 < cLine) (ha : DE X cl W a fa) (hb : DE X cl W b fb) (hs : PlainIx b := by intro _ _; rfl) : DE X cl W (.Subscript a b pos) (f2 gIx fa fb) :=
  PE.imp (pe_ix (i_ix hu) ha hb hs) fun _ _ _ h => t2_of h

/-! ### slices -/
abbrev RO : Wd → Option Int → Option Int → Prop := fun _ b c => b = c
abbrev DO (X : Cx) (cl : Str → Addr) (W : WX) (e : Option Expr) (f : Env → Store → Res (Option Int)) : Prop := PO X e (tG X.K cl W RO f)
theorem PO.imp {X : Cx} {e : Option Expr} {t t' : TO} (h : PO X e t) (i : ∀ σ H Q, t' σ H Q → t σ H Q) : PO X e t' := ⟨fun pins s σ H Q I q => h.run pins s σ H Q I (i σ H Q q)⟩
def oNone : Env → Store → Res (Option Int) := fun _ S => .ok none S
def oSome (f : Env → Store → Res D) : Env → Store → Res (Option Int) := fun ρ S => (f ρ S).bind fun d S1 => match d with
  | .int i => .ok (some i) S1
  | _ => .bad
theorem do_none : DO X cl W none oNone := PO.imp po_none fun σ H Q ⟨w, ρ, S, o, n, p⟩ => p.here o rfl
theorem do_some {e : Expr} {f : Env → Store → Res D} (h : DE X cl W e f) : DO X cl W (some e) (oSome f) := by
  refine PO.imp (po_some h) fun σ H Q ⟨w, ρ, S, o, n, p⟩ => tG.at o n (Post.bind p fun d S1 w1 x H1 e1 o1 r1 p1 => ?_)
  split at p1
  · exact ⟨_, r1.int_inv, p1.here o1 rfl⟩
  · exact p1.elim
def cutD (xs : List D) (lo hi : Option Int) : List D := (xs.drop (HT.sIx xs.length 0 lo)).take (HT.sIx xs.length xs.length hi - HT.sIx xs.length 0 lo)
theorem RA.cut {K : PySem.W.Frag} {w : Wd} {vs : List V} {l : List D} (r : RA K w vs l) (lo hi : Option Int) : RA K w (cutV vs lo hi) (cutD l lo hi) := by
  unfold cutV cutD
  rw [r.length]
  exact (r.drop _).take _
def gCut : D → Option Int → Option Int → Option D
  | .tup l, lo, hi => some (.tup (cutD l lo hi))
  | .lst l, lo, hi => some (.lst (cutD l lo hi))
  | .str x, lo, hi => if x.length ≤ LIM then some (.str (cutS x lo hi)) else none
  | _, _, _ => none
def fCut (f : Env → Store → Res D) (l h : Env → Store → Res (Option Int)) : Env → Store → Res D := fun ρ S => (f ρ S).bind fun d S1 => (l ρ S1).bind fun lo S2 => (h ρ S2).bind fun hi S3 => Res.of S3 (gCut d lo hi)
theorem cutD_all {l : List D} {lo hi : Option Int} (h : HT.sIx l.length 0 lo = 0 ∧ HT.sIx l.length l.length hi = l.length) : cutD l lo hi = l := by
  unfold cutD
  rw [h.1, h.2]
  simp
theorem de_cut {e : Expr} {lo hi : Option Expr} {p2 pos : Pos} {f : Env → Store → Res D} {l h : Env → Store → Res (Option Int)} (he : DE X cl W e f) (hl : DO X cl W lo l) (hh : DO X cl W hi h) : DE X cl W (.Subscript e (.Slice lo hi none p2) pos) (fCut f l h) := by
  refine PE.imp (pe_slice (sl_list.or (sl_tupA.or sl_str)) he hl hh) fun σ H Q ⟨w, ρ, S, o, n, p⟩ => tG.at o n (Post.bind p fun d S1 w1 x H1 e1 o1 r1 p1 => tG.at o1 (n.mono e1) (Post.bind p1 fun i S2 w2 i' H2 e2 o2 ri p2 => ?_))
  cases (show i' = i from ri)
  refine tG.at o2 ((n.mono e1).mono e2) (Post.bind p2 fun j S3 w3 j' H3 e3 o3 rj p3 => ?_)
  cases (show j' = j from rj)
  have r3 := (r1.mono e2.le).mono e3.le
  cases d <;> simp only [gCut] at p3 <;> try exact p3.elim
  · split at p3
    · rename_i hl
      cases r3
      exact .inr (.inr ⟨_, rfl, lim_le hl, p3.here o3 (.str _)⟩)
    · exact p3.elim
  · obtain ⟨a, vs, rfl, ha, ra⟩ := r3.tup_inv
    refine .inr (.inl ⟨a, vs, rfl, o3.sqT ha, fun hw => ?_, fun _ q hq => ?_⟩)
    · rw [ra.length] at hw
      rw [cutD_all hw] at p3
      exact p3.here o3 r3
    · obtain ⟨e, o', r⟩ := o3.layT hq (ra.cut i j)
      exact p3.okT e o' r
  · obtain ⟨a, vs, rfl, ha, ra⟩ := r3.lst_inv
    refine .inl ⟨a, vs, rfl, o3.sqL ha, fun q hq => ?_⟩
    obtain ⟨e, o', r⟩ := o3.layL hq (ra.cut i j)
    exact p3.okT e o' r

/-! ### built-in calls by values -/
def rN (K : PySem.W.Frag) (cl : Str → Addr) (g : List D → Store → Option D) : List V → Hp → VK → Prop := fun xs H Q => ∃ w S ds z, Ok K cl w S H ∧ RA K w xs ds ∧ g ds S = some z ∧
  ∀ w' v H', Ext w H w' H' → Ok K cl w' S H' → R K w' v z → Q v H'
def fN (g : List D → Store → Option D) (fa : Env → Store → Res (List D)) : Env → Store → Res D := fun ρ S => (fa ρ S).bind fun ds S1 => Res.of S1 (g ds S1)
theorem CallR.imp {f : Value} {r r' : List V → Hp → VK → Prop} (h : CallR X f r) (i : ∀ xs H Q, r' xs H Q → r xs H Q) : CallR X f r' := by
  intro pins s σ H xs us Q I rx q
  exact h pins s σ H xs us Q I rx (i xs H Q q)
theorem ofN {f : Value} {r : List V → Hp → VK → Prop} {g : List D → Store → Option D} (h : CallR X f r)
    (i : ∀ xs H Q w S ds z, Ok X.K cl w S H → RA X.K w xs ds → g ds S = some z → (∀ w' v H', Ext w H w' H' → Ok X.K cl w' S H' → R X.K w' v z → Q v H') → r xs H Q) : CallR X f (rN X.K cl g) :=
  CallR.imp h fun xs H Q ⟨w, S, ds, z, k, ra, hg, q⟩ => i xs H Q w S ds z k ra hg q
theorem tN_of {g : List D → Store → Option D} {fa : Env → Store → Res (List D)} {σ : L2.St} {H : Hp} {Q : VK} (h : tG X.K cl W (R X.K) (fN g fa) σ H Q) : tCB (rN X.K cl g) (tG X.K cl W (RA X.K) fa) σ H Q := by
  obtain ⟨w, ρ, S, o, n, p⟩ := h
  refine tG.at o n (Post.bind p fun ds S1 w1 xs H1 e1 o1 r1 p1 => ?_)
  cases hg : g ds S1 with
  | none => rw [hg] at p1; exact p1.elim
  | some z =>
    rw [hg] at p1
    exact ⟨w1, S1, ds, z, o1, r1, hg, fun w' v H' e' o' r' => p1.okT e' o' r'⟩
theorem de_callB {x : Str} {p pos : Pos} {e : Expr} {es : List Expr} {id : String} {g : List D → Store → Option D} {fa : Env → Store → Res (List D)} (hc : CallR X (.builtin id) (rN X.K cl g)) (hg : Gl X x) (hm : X.mg x = none) (hv : bootBuiltins x = some (.builtin id)) (ha : DA X cl W (e :: es) fa)
    (hn : x ≠ "__name__" := by decide) (hdb : (x == ("__debug__" : Str)) = false := by decide) (he : starEach (e :: es) X.env = (false, eval e X.env) :: starEach es X.env := by rfl) (hpl : (backTo pos (starEach es X.env)).any (·.1) = false := by rfl) :
    DE X cl W (.Call (.Name x p) (e :: es) [] pos) (fN g fa) := PE.imp (pe_callB hc hg hm hv ha hn hdb he hpl) fun _ _ _ h => tN_of h
theorem de_callTy {x : Str} {p pos : Pos} {e : Expr} {es : List Expr} {T : String} {g : List D → Store → Option D} {fa : Env → Store → Res (List D)} (hc : CallR X (.type T) (rN X.K cl g)) (hg : Gl X x) (hm : X.mg x = none) (hv : bootBuiltins x = some (.type T)) (ha : DA X cl W (e :: es) fa)
    (hn : x ≠ "__name__" := by decide) (hdb : (x == ("__debug__" : Str)) = false := by decide) (he : starEach (e :: es) X.env = (false, eval e X.env) :: starEach es X.env := by rfl) (hpl : (backTo pos (starEach es X.env)).any (·.1) = false := by rfl) :
    DE X cl W (.Call (.Name x p) (e :: es) [] pos) (fN g fa) := PE.imp (pe_callTy hc hg hm hv ha hn hdb he hpl) fun _ _ _ h => tN_of h

/-! ### calls of defs -/
def spM (K : PySem.W.Frag) (cl : Str → Addr) (np : Nat) (m : List D → Store → Res D) : Sp := fun vs H Q E => ∃ w S ds, Ok K cl w S H ∧ RA K w vs ds ∧ ds.length = np ∧ Post K cl (fun c d _ H => E c d H) [] (R K) w H (m ds S) Q
def fM (n : Nat) (m : List D → Store → Res D) (fa : Env → Store → Res (List D)) : Env → Store → Res D := fun ρ S => (fa ρ S).bind fun ds S1 => if ds.length = n then m ds S1 else .bad
/-- a def of the text, as it stands: m is what it gives -/
structure Df (P : Program) (w : World) (K : PySem.W.Frag) (mg : Str → Option Value) (base : Heap) (cl : Str → Addr) (k : Nat) (x : Str) (ps : List Str) (m : List D → Store → Res D) : Prop where
  ex : ∃ f fd, FnOk P w K mg base (L2.CX P w) k f fd ps (spM K cl ps.length m) ∧ mg x = some (.ref f) ∧ PySem.W.keepIn K (.ref f) = true ∧ Binds K fd ps []
theorem Post.w {K : PySem.W.Frag} {α β : Type} {Rl : Wd → β → α → Prop} {W W' : WX} {σ σ' : L2.St} {w : Wd} {H : Hp} {r : Res α} {Q : β → Hp → Prop} (h : Post K cl W σ Rl w H r Q) (hW : ∀ c H', W (.ref (cl c)) none σ H' → W' (.ref (cl c)) none σ' H') : Post K cl W' σ' Rl w H r Q := by
  cases r with
  | ok d S => exact h
  | err c S => exact fun w' H' e o => hW c H' (h w' H' e o)
  | bad => exact h
theorem de_call {k j n : Nat} {x : Str} {ps : List Str} {m : List D → Store → Res D} {p pos : Pos} {e : Expr} {es : List Expr} {fa : Env → Store → Res (List D)} (G : Df X.prog X.w X.K X.mg X.base cl k x ps m) (hr : Room j X.A) (hj : k ≤ j) (hg : Gl X x) (tk : Takes X W) (ha : DA X cl W (e :: es) fa)
    (hn : ps.length = n := by rfl) (hdb : (x == ("__debug__" : Str)) = false := by decide) (he : starEach (e :: es) X.env = (false, eval e X.env) :: starEach es X.env := by rfl) (hpl : (backTo pos (starEach es X.env)).any (·.1) = false := by rfl) :
    DE X cl W (.Call (.Name x p) (e :: es) [] pos) (fM n m fa) := by
  subst hn
  obtain ⟨f, fd, F, hm, hk, hb⟩ := G.ex
  refine PE.imp (pe_callSD F (hr.mono hj) hg hm hk hb .nil (fun σ => passAt tk σ) ha hdb he hpl) fun σ H Q ⟨w, ρ, S, o, n, p⟩ => ?_
  refine tG.at o n (Post.bind p fun ds S1 w1 xs H1 e1 o1 r1 p1 => ?_)
  split at p1
  · rename_i hl
    rw [List.append_nil]
    exact ⟨w1, S1, ds, o1, r1, hl, Post.w p1 fun c H' h => h⟩
  · exact p1.elim
end
end BW
namespace BW
open PySem L2
/-! ### statements -/
inductive Out where
  | next (ρ : Env) (S : Store) | ret (d : D) (S : Store) | brk (ρ : Env) (S : Store) | cont (ρ : Env) (S : Store) | err (c : Str) (ρ : Env) (S : Store) | bad
abbrev Stm := Env → Store → Out
structure Pt where
  w : Wd
  H : Hp
def Fresh (H0 : Hp) (σ : L2.St) (ρ : Env) : Prop := ∀ (i : Nat) (s : Slot) (a : Addr), ρ[i]? = some (some s) → s.isOwn = true → σ[i]? = some (some (.ref a)) → H0 a = none
section
variable (K : PySem.W.Frag) (cl : Str → Addr) (e : Pt) (W : WX)
/-- a frame's state -/
structure Fs (σ : L2.St) (H : Hp) (w : Wd) (ρ : Env) (S : Store) : Prop where
  ext : Ext e.w e.H w H
  ok : Ok K cl w S H
  env : EnvR K w H σ ρ
  fr : Fresh e.H σ ρ
def PostS (w : Wd) (Z : Ends) (o : Out) : Prop := match o with
  | .next ρ' S' => ∀ w' σ' H', Le w w' → Fs K cl e σ' H' w' ρ' S' → Z.nx σ' H'
  | .ret d S' => ∀ w' v H', Le w w' → Ext e.w e.H w' H' → Ok K cl w' S' H' → R K w' v d → Z.rt v H'
  | .brk ρ' S' => ∀ w' σ' H', Le w w' → Fs K cl e σ' H' w' ρ' S' → Z.bk σ' H'
  | .cont ρ' S' => ∀ w' σ' H', Le w w' → Fs K cl e σ' H' w' ρ' S' → Z.ct σ' H'
  | .err c ρ' S' => ∀ w' σ' H', Le w w' → Fs K cl e σ' H' w' ρ' S' → W (.ref (cl c)) none σ' H'
  | .bad => False
def tSt (g : Stm) : TS := fun Z σ H => ∃ w ρ S, Fs K cl e σ H w ρ S ∧ PostS K cl e W w Z (g ρ S)
end
abbrev DS (X : Cx) (cl : Str → Addr) (e : Pt) (W : WX) (st : Stmt) (g : Stm) : Prop := PS X st (tSt X.K cl e W g)
abbrev DSs (X : Cx) (cl : Str → Addr) (e : Pt) (W : WX) (st : List Stmt) (g : Stm) : Prop := PSs X st (tSt X.K cl e W g)
/-- an expression within a statement -/
def Out.of {α : Type} (r : Res α) (ρ : Env) (k : α → Store → Out) : Out := match r with
  | .ok a S => k a S
  | .err c S => .err c ρ S
  | .bad => .bad
section
variable {K : PySem.W.Frag} {cl : Str → Addr} {e : Pt} {W : WX} {Z : Ends} {σ : L2.St} {H : Hp} {w : Wd} {ρ : Env} {S : Store}
theorem Le.refl (w : Wd) : Le w w := ⟨Nat.le_refl _, fun _ _ => rfl, Same.refl _⟩
theorem Le.trans {w w1 w2 : Wd} (a : Le w w1) (b : Le w1 w2) : Le w w2 := ⟨Nat.le_trans a.n b.n, fun i hi => (b.k i (Nat.lt_of_lt_of_le hi a.n)).trans (a.k i hi), a.F.trans b.F⟩
theorem PostS.le {w' : Wd} {o : Out} (l : Le w w') (h : PostS K cl e W w Z o) : PostS K cl e W w' Z o := by
  cases o with
  | next ρ S => exact fun w2 σ2 H2 l2 f2 => h w2 σ2 H2 (l.trans l2) f2
  | ret d S => exact fun w2 v2 H2 l2 f2 => h w2 v2 H2 (l.trans l2) f2
  | brk ρ S => exact fun w2 σ2 H2 l2 f2 => h w2 σ2 H2 (l.trans l2) f2
  | cont ρ S => exact fun w2 σ2 H2 l2 f2 => h w2 σ2 H2 (l.trans l2) f2
  | err c ρ S => exact fun w2 σ2 H2 l2 f2 => h w2 σ2 H2 (l.trans l2) f2
  | bad => exact h
theorem Fs.on {w' : Wd} {H' : Hp} {S' : Store} (f : Fs K cl e σ H w ρ S) (x : Ext w H w' H') (o : Ok K cl w' S' H') : Fs K cl e σ H' w' ρ S' := ⟨f.ext.trans x, o, f.env.mono x, f.fr⟩
theorem PostS.expr {α β : Type} {Rl : Wd → β → α → Prop} {r : Res α} {k : α → Store → Out} {Q : β → Hp → Prop} (h : PostS K cl e W w Z (Out.of r ρ k)) (f : Fs K cl e σ H w ρ S)
    (hk : ∀ d S1 w1 v H1, Ext w H w1 H1 → Fs K cl e σ H1 w1 ρ S1 → Rl w1 v d → PostS K cl e W w1 Z (k d S1) → Q v H1) : Post K cl W σ Rl w H r Q := by
  cases r with
  | ok d S1 => exact fun w1 v H1 e1 o1 r1 => hk d S1 w1 v H1 e1 (f.on e1 o1) r1 (PostS.le e1.le h)
  | err c S1 => exact fun w1 H1 e1 o1 => h w1 σ H1 e1.le (f.on e1 o1)
  | bad => exact h
theorem Fs.tG {α β : Type} {Rl : Wd → β → α → Prop} {f : Env → Store → Res α} {Q : β → Hp → Prop} (x : Fs K cl e σ H w ρ S) (p : Post K cl W σ Rl w H (f ρ S) Q) : BW.tG K cl W Rl f σ H Q := BW.tG.at x.ok x.env p
/-- a slot takes a value -/
theorem Fs.set {i : Nat} {v : V} {d : D} (f : Fs K cl e σ H w ρ S) (r : R K w v d) : Fs K cl e (σ.set i (some v)) H w (ρ.set i (some (.dat d))) S := by
  refine ⟨f.ext, f.ok, ⟨by simp [f.env.len], fun j s hs => ?_, fun j l s t u hjl hs ht os ot hj hl => ?_⟩, fun j s a hs os hj => ?_⟩
  · by_cases e : j = i
    · subst e
      have hj : j < ρ.length := by
        have := (List.getElem?_eq_some_iff.mp hs).1
        simpa using this
      rw [List.getElem?_set_self hj] at hs
      cases hs
      exact ⟨v, by rw [List.getElem?_set_self (by rw [f.env.len]; exact hj)], r⟩
    · rw [List.getElem?_set_ne (Ne.symm e)] at hs ⊢
      exact f.env.slot j s hs
  · by_cases e : j = i
    · subst e
      by_cases hj : j < ρ.length
      · rw [List.getElem?_set_self hj] at hs; cases hs; cases os
      · rw [List.getElem?_eq_none (by simpa using Nat.le_of_not_lt hj)] at hs; cases hs
    · by_cases e2 : l = i
      · subst e2
        by_cases hj : l < ρ.length
        · rw [List.getElem?_set_self hj] at ht; cases ht; cases ot
        · rw [List.getElem?_eq_none (by simpa using Nat.le_of_not_lt hj)] at ht; cases ht
      · rw [List.getElem?_set_ne (Ne.symm e)] at hs hj
        rw [List.getElem?_set_ne (Ne.symm e2)] at ht hl
        exact f.env.sep j l s t u hjl hs ht os ot hj hl
  · by_cases e : j = i
    · subst e
      by_cases hj' : j < ρ.length
      · rw [List.getElem?_set_self hj'] at hs; cases hs; cases os
      · rw [List.getElem?_eq_none (by simpa using Nat.le_of_not_lt hj')] at hs; cases hs
    · rw [List.getElem?_set_ne (Ne.symm e)] at hs hj
      exact f.fr j s a hs os hj
/-- .. a new own object -/
theorem Fs.setOwn {i : Nat} {a : Addr} {s : Slot} (f : Fs K cl e σ H w ρ S) (so : s.isOwn = true) (ok : SlotOk K w H s (.ref a)) (h0 : e.H a = none) (sep : ∀ j t, ρ[j]? = some (some t) → t.isOwn = true → j ≠ i → σ[j]? ≠ some (some (.ref a))) :
    Fs K cl e (σ.set i (some (.ref a))) H w (ρ.set i (some s)) S := by
  refine ⟨f.ext, f.ok, ⟨by simp [f.env.len], fun j t hs => ?_, fun j l t t' u hjl hs ht os ot hj hl => ?_⟩, fun j t b hs os hj => ?_⟩
  · by_cases e : j = i
    · subst e
      have hj : j < ρ.length := by
        have := (List.getElem?_eq_some_iff.mp hs).1
        simpa using this
      rw [List.getElem?_set_self hj] at hs
      cases hs
      exact ⟨_, by rw [List.getElem?_set_self (by rw [f.env.len]; exact hj)], ok⟩
    · rw [List.getElem?_set_ne (Ne.symm e)] at hs ⊢
      exact f.env.slot j t hs
  · by_cases e : j = i
    · subst e
      have hl' : σ[l]? = some (some u) := by rw [List.getElem?_set_ne hjl] at hl; exact hl
      have ht' : ρ[l]? = some (some t') := by rw [List.getElem?_set_ne hjl] at ht; exact ht
      have hj2 : j < σ.length := by
        have := (List.getElem?_eq_some_iff.mp hj).1
        simpa using this
      rw [List.getElem?_set_self hj2] at hj
      cases hj
      exact sep l t' ht' ot (Ne.symm hjl) hl'
    · by_cases e2 : l = i
      · subst e2
        have hl' : σ[j]? = some (some u) := by rw [List.getElem?_set_ne (Ne.symm hjl)] at hj; exact hj
        have ht' : ρ[j]? = some (some t) := by rw [List.getElem?_set_ne (Ne.symm hjl)] at hs; exact hs
        have hj2 : l < σ.length := by
          have := (List.getElem?_eq_some_iff.mp hl).1
          simpa using this
        rw [List.getElem?_set_self hj2] at hl
        cases hl
        exact sep j t ht' os hjl hl'
      · rw [List.getElem?_set_ne (Ne.symm e)] at hs hj
        rw [List.getElem?_set_ne (Ne.symm e2)] at ht hl
        exact f.env.sep j l t t' u hjl hs ht os ot hj hl
  · by_cases e' : j = i
    · subst e'
      have hj2 : j < σ.length := by
        have := (List.getElem?_eq_some_iff.mp hj).1
        simpa using this
      rw [List.getElem?_set_self hj2] at hj
      cases hj
      exact h0
    · rw [List.getElem?_set_ne (Ne.symm e')] at hs hj
      exact f.fr j t b hs os hj
end
section
variable {X : Cx} {cl : Str → Addr} {e : Pt} {W : WX} {st : Stmt} {rest : List Stmt} {pos : Pos}
def sNil : Stm := fun ρ S => .next ρ S
def sSeq (g h : Stm) : Stm := fun ρ S => match g ρ S with
  | .next ρ1 S1 => h ρ1 S1
  | o => o
theorem dss_nil : DSs X cl e W [] sNil := PSs.imp pss_nil fun Z σ H ⟨w, ρ, S, f, p⟩ => p w σ H (Le.refl _) f
theorem dss_cons {g h : Stm} (h1 : DS X cl e W st g) (h2 : DSs X cl e W rest h) : DSs X cl e W (st :: rest) (sSeq g h) := by
  refine PSs.imp (pss_cons h1 h2) fun Z σ H ⟨w, ρ, S, f, p⟩ => ⟨w, ρ, S, f, ?_⟩
  unfold sSeq at p
  cases hg : g ρ S with
  | next ρ1 S1 =>
    rw [hg] at p
    exact fun w1 σ1 H1 l1 f1 => ⟨w1, ρ1, S1, f1, PostS.le l1 p⟩
  | ret d S1 => rw [hg] at p; exact p
  | brk ρ1 S1 => rw [hg] at p; exact p
  | cont ρ1 S1 => rw [hg] at p; exact p
  | err c ρ1 S1 => rw [hg] at p; exact p
  | bad => rw [hg] at p; exact p
theorem dss_one {g : Stm} (h1 : DS X cl e W st g) : DSs X cl e W [st] g := pss_one h1
theorem ds_pass : DS X cl e W (.Pass pos) sNil := PS.imp ps_pass fun Z σ H ⟨w, ρ, S, f, p⟩ => p w σ H (Le.refl _) f
def sBreak : Stm := fun ρ S => .brk ρ S
def sCont : Stm := fun ρ S => .cont ρ S
theorem ds_break : DS X cl e W (.Break pos) sBreak := PS.imp ps_break fun Z σ H ⟨w, ρ, S, f, p⟩ => p w σ H (Le.refl _) f
theorem ds_continue : DS X cl e W (.Continue pos) sCont := PS.imp ps_continue fun Z σ H ⟨w, ρ, S, f, p⟩ => p w σ H (Le.refl _) f
def sExpr (f : Env → Store → Res BW.D) : Stm := fun ρ S => Out.of (f ρ S) ρ fun _ S1 => .next ρ S1
theorem ds_expr {ex : Expr} {f : Env → Store → Res BW.D} (h : DE X cl W ex f) (hs : swapsWith ex none pos.line X.env = pure false := by rfl) : DS X cl e W (.Expr ex pos) (sExpr f) := by
  refine PS.imp (ps_expr h hs) fun Z σ H ⟨w, ρ, S, fs, p⟩ => fs.tG (PostS.expr p fs fun d S1 w1 v H1 _ f1 r1 p1 => p1 w1 σ H1 (Le.refl _) f1)
def sRet (f : Env → Store → Res BW.D) : Stm := fun ρ S => Out.of (f ρ S) ρ fun d S1 => .ret d S1
theorem ds_ret {ex : Expr} {f : Env → Store → Res BW.D} (h : DE X cl W ex f) : DS X cl e W (.Return (some ex) pos) (sRet f) :=
  PS.imp (ps_ret h) fun Z σ H ⟨w, ρ, S, fs, p⟩ => fs.tG (PostS.expr p fs fun d S1 w1 v H1 _ f1 r1 p1 => p1 w1 v H1 (Le.refl _) f1.ext f1.ok r1)
def sIf (t : Env → Store → Res Bool) (g h : Stm) : Stm := fun ρ S => Out.of (t ρ S) ρ fun b S1 => if b = true then g ρ S1 else h ρ S1
theorem ds_if {c : Expr} {a b : List Stmt} {t : Env → Store → Res Bool} {g h : Stm} (hc : DT X cl W c t) (ha : DSs X cl e W a g) (hb : DSs X cl e W b h) : DS X cl e W (.If c a b pos) (sIf t g h) := by
  refine PS.imp (ps_if hc ha hb) fun Z σ H ⟨w, ρ, S, fs, p⟩ => fs.tG (PostS.expr p fs fun d S1 w1 v H1 _ f1 r1 p1 => ?_)
  cases (show v = d from r1)
  cases d with
  | true => rw [if_pos rfl] at p1 ⊢; exact ⟨w1, ρ, S1, f1, p1⟩
  | false => rw [if_neg Bool.false_ne_true] at p1 ⊢; exact ⟨w1, ρ, S1, f1, p1⟩
def sSet (i : Nat) (f : Env → Store → Res BW.D) : Stm := fun ρ S => Out.of (f ρ S) ρ fun d S1 => .next (ρ.set i (some (.dat d))) S1
theorem ds_set {i : Nat} {x : Str} {ex : Expr} {pos' : Pos} {f : Env → Store → Res BW.D} (hN : X.N.Nodup) (hi : X.N[i]? = some x) (hx : Loc X.env.scope x) (h : DE X cl W ex f) (hs : swapsWith ex (some (.Name x pos')) pos.line X.env = pure false := by rfl)
    (hf : X.fn x = true ∨ X.env.scope.names.lookup x = some .local := by first | exact .inl rfl | exact .inr rfl | assumption) : DS X cl e W (.Assign [.Name x pos'] ex pos) (sSet i f) :=
  PS.imp (ps_set hN hi hx h hs hf) fun Z σ H ⟨w, ρ, S, fs, p⟩ => fs.tG (PostS.expr p fs fun d S1 w1 v H1 _ f1 r1 p1 => p1 w1 _ H1 (Le.refl _) (f1.set r1))

/-! ### targets -/
def Tgt := BW.D → Env → Option Env
abbrev Tgts := List BW.D → Env → Option Env
def tgName (i : Nat) : Tgt := fun d ρ => some (ρ.set i (some (.dat d)))
def tgNil : Tgts := fun ds ρ => match ds with
  | [] => some ρ
  | _ => none
def tgCons (t : Tgt) (u : Tgts) : Tgts := fun ds ρ => match ds with
  | d :: r => (t d ρ).bind (u r)
  | _ => none
def tgTup (n : Nat) (u : Tgts) : Tgt := fun d ρ => match d with
  | .tup l => if l.length = n then u l ρ else none
  | _ => none
/-- a target keeps the state -/
def gT (K : PySem.W.Frag) (cl : Str → Addr) (e : Pt) (t : Tgt) : TG := fun v σ H Q => ∃ w ρ S d ρ', Fs K cl e σ H w ρ S ∧ R K w v d ∧ t d ρ = some ρ' ∧ ∀ σ', Fs K cl e σ' H w ρ' S → Q σ' H
def gTs (K : PySem.W.Frag) (cl : Str → Addr) (e : Pt) (t : Tgts) : TGs := fun vs σ H Q => ∃ w ρ S ds ρ', Fs K cl e σ H w ρ S ∧ RA K w vs ds ∧ t ds ρ = some ρ' ∧ ∀ σ', Fs K cl e σ' H w ρ' S → Q σ' H
theorem PG.imp {tg : Expr} {t t' : TG} (h : PG X tg t) (i : ∀ v σ H Q, t' v σ H Q → t v σ H Q) : PG X tg t' := ⟨fun pins s σ H v u Q I r q => h.run pins s σ H v u Q I r (i v σ H Q q)⟩
theorem PGs.imp {tg : List Expr} {t t' : TGs} (h : PGs X tg t) (i : ∀ v σ H Q, t' v σ H Q → t v σ H Q) : PGs X tg t' := ⟨fun pins s σ H v u Q I r q => h.run pins s σ H v u Q I r (i v σ H Q q)⟩
theorem dg_name {i : Nat} {x : Str} (hN : X.N.Nodup) (hi : X.N[i]? = some x) (hx : Loc X.env.scope x) (hf : X.fn x = true ∨ X.env.scope.names.lookup x = some .local := by first | exact .inl rfl | exact .inr rfl | assumption) : PG X (.Name x pos) (gT X.K cl e (tgName i)) :=
  PG.imp (pg_name hN hi hx hf) fun v σ H Q ⟨w, ρ, S, d, ρ', f, r, ht, q⟩ => by cases ht; exact q _ (f.set r)
theorem dgs_nil : PGs X [] (gTs X.K cl e tgNil) := PGs.imp pgs_nil fun vs σ H Q ⟨w, ρ, S, ds, ρ', f, r, ht, q⟩ => by
  cases r with
  | nil => cases ht; exact ⟨rfl, q σ f⟩
  | cons => cases ht
theorem dgs_cons {ex : Expr} {es : List Expr} {t : Tgt} {u : Tgts} (h1 : PG X ex (gT X.K cl e t)) (h2 : PGs X es (gTs X.K cl e u))
    (hs : (assignEach (ex :: es) X.env).map (·.2) = assign ex X.env :: (assignEach es X.env).map (·.2) := by rfl) : PGs X (ex :: es) (gTs X.K cl e (tgCons t u)) := PGs.imp (pgs_cons h1 h2 hs) fun vs σ H Q ⟨w, ρ, S, ds, ρ', f, r, ht, q⟩ => by
  cases r with
  | nil => cases ht
  | @cons v d vs ds r rr =>
    have ht : (t d ρ).bind (u ds) = some ρ' := ht
    cases h : t d ρ with
    | none => rw [h] at ht; cases ht
    | some ρ1 =>
      rw [h] at ht
      exact ⟨v, vs, rfl, w, ρ, S, d, ρ1, f, r, h, fun σ1 f1 => ⟨w, ρ1, S, ds, ρ', f1, rr, ht, q⟩⟩
theorem dg_tup {es : List Expr} {k n : Nat} {u : Tgts} (hc : X.calm = true) (h : PGs X es (gTs X.K cl e u)) (hn : (assignEach es X.env).length = n := by rfl) (hst : (assignEach es X.env).findIdx? (·.1) = none := by rfl) :
    PG X (.Tuple es k pos) (gT X.K cl e (tgTup n u)) := PG.imp (pg_tup hc h hn hst) fun v σ H Q ⟨w, ρ, S, d, ρ', f, r, ht, q⟩ => by
  cases d <;> try (simp only [tgTup] at ht; cases ht)
  rename_i l
  simp only [tgTup] at ht
  split at ht
  · rename_i hl
    obtain ⟨a, vs, rfl, ha, ra⟩ := r.tup_inv
    exact ⟨a, vs, rfl, f.ok.sqT ha, by rw [ra.length]; exact hl, w, ρ, S, l, ρ', f, ra, ht, q⟩
  · cases ht
/-- target = e -/
def sAsg (t : Tgt) (f : Env → Store → Res BW.D) : Stm := fun ρ S => Out.of (f ρ S) ρ fun d S1 => match t d ρ with
  | some ρ' => .next ρ' S1
  | none => .bad
theorem ds_asg {tg ex : Expr} {t : Tgt} {f : Env → Store → Res BW.D} (h : DE X cl W ex f) (hg : PG X tg (gT X.K cl e t)) (hs : swapsWithSole [tg] ex pos.line X.env = pure false := by rfl) (hw : swappedStores [tg] ex X.env = pure none := by rfl)
    (h1 : (assignEach [tg] X.env).map (·.2) = [assign tg X.env] := by rfl) : DS X cl e W (.Assign [tg] ex pos) (sAsg t f) :=
  PS.imp (ps_asg h hg hs hw h1) fun Z σ H ⟨w, ρ, S, fs, p⟩ => fs.tG (PostS.expr p fs fun d S1 w1 v H1 _ f1 r1 p1 => by
    split at p1
    · rename_i ρ' ht
      exact ⟨w1, ρ, S1, d, ρ', f1, r1, ht, fun σ' f' => p1 w1 σ' H1 (Le.refl _) f'⟩
    · exact p1.elim)

/-! ### what is walked -/
def Walks (K : PySem.W.Frag) (cl : Str → Addr) (J : It) (w : Wd) (ds : List BW.D) : Prop := ∀ (i : Nat) (w1 : Wd) (S1 : Store) (H1 : Hp), Le w w1 → Ok K cl w1 S1 H1 →
  (∀ d, ds[i]? = some d → J.go i H1 ∧ ∀ x H2, J.yld i H1 x H2 → ∃ w2, Ext w1 H1 w2 H2 ∧ Ok K cl w2 S1 H2 ∧ R K w2 x d) ∧ (ds.length = i → J.stop i H1)
def tI (K : PySem.W.Frag) (cl : Str → Addr) (W : WX) (f : Env → Store → Res (List BW.D)) : TI := fun σ H Rr => ∃ w ρ S, Ok K cl w S H ∧ EnvR K w H σ ρ ∧ match f ρ S with
  | .ok ds S' => ∀ w' H' J, Ext w H w' H' → Ok K cl w' S' H' → Walks K cl J w' ds → Rr J H'
  | .err c S' => ∀ w' H', Ext w H w' H' → Ok K cl w' S' H' → W (.ref (cl c)) none σ H'
  | .bad => False
abbrev DI (X : Cx) (cl : Str → Addr) (W : WX) (tg iter : Expr) (f : Env → Store → Res (List BW.D)) : Prop := PI X tg iter (tI X.K cl W f)
theorem PI.imp {tg iter : Expr} {t t' : TI} (h : PI X tg iter t) (i : ∀ σ H Q, t' σ H Q → t σ H Q) : PI X tg iter t' := ⟨fun pins s σ H Q I q => h.run pins s σ H Q I (i σ H Q q)⟩
def forL (t : Tgt) (g : Stm) : List BW.D → Stm
  | [], ρ, S => .next ρ S
  | x :: xs, ρ, S => match t x ρ with
    | none => .bad
    | some ρ1 => match g ρ1 S with
      | .next ρ2 S2 => forL t g xs ρ2 S2
      | .cont ρ2 S2 => forL t g xs ρ2 S2
      | .brk ρ2 S2 => .next ρ2 S2
      | .ret d S2 => .ret d S2
      | .err c ρ2 S2 => .err c ρ2 S2
      | .bad => .bad
def sFor (fi : Env → Store → Res (List BW.D)) (t : Tgt) (g : Stm) : Stm := fun ρ S => Out.of (fi ρ S) ρ fun ds S1 => forL t g ds ρ S1
theorem ds_for {tg iter : Expr} {body : List Stmt} {fi : Env → Store → Res (List BW.D)} {t : Tgt} {g : Stm} (hp : PassesOwn (model X.prog X.w) X.A X.env X.xe) (hc : X.calm = true) (hi : DI X cl W tg iter fi) (hg : PG X tg (gT X.K cl e t)) (hb : DSs X cl e W body g)
    (hs : ∀ x, foldedSetIterable iter X.env x = pure x := by intro _; rfl) : DS X cl e W (.For tg iter body [] pos) (sFor fi t g) := by
  refine PS.imp (ps_for hp hc hi hg hb hs) fun Z σ H ⟨w, ρ, S, fs, p⟩ => ⟨w, ρ, S, fs.ok, fs.env, ?_⟩
  unfold sFor at p
  cases hr : fi ρ S with
  | bad => rw [hr] at p; exact p
  | err c S1 => rw [hr] at p; exact fun w1 H1 e1 o1 => p w1 σ H1 e1.le (fs.on e1 o1)
  | ok ds S1 =>
    rw [hr] at p
    have p : PostS X.K cl e W w Z (forL t g ds ρ S1) := p
    intro w1 H1 J e1 o1 wk
    have f1 := fs.on e1 o1
    refine ⟨fun i m σ' H' => ∃ w' ρ' S', Le w1 w' ∧ Fs X.K cl e σ' H' w' ρ' S' ∧ m = ds.length - i ∧ i ≤ ds.length ∧ PostS X.K cl e W w' Z (forL t g (ds.drop i) ρ' S'), ⟨ds.length, w1, ρ, S1, Le.refl _, f1, rfl, Nat.zero_le _, PostS.le e1.le p⟩, ?_⟩
    rintro i m σ' H' ⟨w', ρ', S', l', f', rfl, hle, p'⟩
    obtain ⟨hgo, hstop⟩ := wk i w' S' H' l' f'.ok
    by_cases hi : i < ds.length
    · have hd : ds[i]? = some ds[i] := by simp [hi]
      rw [List.drop_eq_getElem_cons hi] at p'
      simp only [forL] at p'
      obtain ⟨go, yld⟩ := hgo _ hd
      refine .inr ⟨go, fun σ2 H2 => ∃ w2 ρ2 S2, Le w1 w2 ∧ Fs X.K cl e σ2 H2 w2 ρ2 S2 ∧ PostS X.K cl e W w2 Z (forL t g (ds.drop (i + 1)) ρ2 S2), fun σ2 H2 ⟨w2, ρ2, S2, l2, f2, p2⟩ => ⟨ds.length - (i + 1), by omega, w2, ρ2, S2, l2, f2, rfl, hi, p2⟩, fun x H2 y => ?_⟩
      obtain ⟨w2, e2, o2, r2⟩ := yld x H2 y
      have f2 := f'.on e2 o2
      have l2 := l'.trans e2.le
      have p2 := PostS.le e2.le p'
      cases ht : t ds[i] ρ' with
      | none => rw [ht] at p2; exact p2.elim
      | some ρ1 =>
        rw [ht] at p2
        refine ⟨w2, ρ', S', ds[i], ρ1, f2, r2, ht, fun σ3 f3 => ⟨w2, ρ1, S', f3, ?_⟩⟩
        simp only at p2
        cases hg : g ρ1 S' with
        | next ρ4 S4 =>
          rw [hg] at p2
          exact fun w4 σ4 H4 l4 f4 => ⟨w4, ρ4, S4, l2.trans l4, f4, PostS.le l4 p2⟩
        | cont ρ4 S4 =>
          rw [hg] at p2
          exact fun w4 σ4 H4 l4 f4 => ⟨w4, ρ4, S4, l2.trans l4, f4, PostS.le l4 p2⟩
        | brk ρ4 S4 => rw [hg] at p2; exact p2
        | ret d S4 => rw [hg] at p2; exact p2
        | err c ρ4 S4 => rw [hg] at p2; exact p2
        | bad => rw [hg] at p2; exact p2
    · exact .inl ⟨hstop (by omega), by
        rw [List.drop_eq_nil_of_le (Nat.le_of_not_lt hi)] at p'
        exact p' w' σ' H' (Le.refl _) f'⟩
end
end BW
namespace BW
open PySem PySem.Spec PyProof.Rows L2
/-! ### enumerate(t), t a tuple -/
set_option maxHeartbeats 1000000 in
theorem meets_enum1 {v : Value} {o : Obj} {H : Heap → Prop} (B : Begins v o H) :
    Meets (Builtin.«enumerate.__new__» ⟨[.type "enumerate", v], []⟩) (fun _ R s => H s.heap ∧
      R (.ok (.ret (.ref (s.heap.push o).objs.size))) { s with heap := (s.heap.push o).push { cls := .type "enumerate", data := .fields #[.none, .bool false, .ref s.heap.objs.size, rawInt 0, .none, .none] } }) :=
  .of_wp fun prog w A R s h => by
    obtain ⟨hp, g, d, tk, os⟩ := s; obtain ⟨h1, h⟩ := h
    have hsub := sub_enumerate
    have q1 : ∀ {A' : Around} {E : Value → Shared → Prop} {Q : Value → Shared → Prop}, Q (.ref hp.objs.size) ⟨hp.push o, g, d, tk, os⟩ → wpAny (model prog w) A' (pyIter v) Q E ⟨hp, g, d, tk, os⟩ :=
      fun q => B.iter prog w _ _ ⟨hp, g, d, tk, os⟩ _ h1 q
    wp_walk using q1
    refine wpAny_stack_any fun st => wpAny_pure ?_
    split
    · rename_i c _ _ _ _ _
      cases (c == Value.type "enumerate")
      · wp_walk using q1
        exact ⟨_, rfl, h⟩
      · wp_walk using q1
        exact ⟨_, rfl, h⟩
    · wp_walk using q1
      exact ⟨_, rfl, h⟩
theorem enum_begins1 {prog : Program} {w : World} {A : Around} {E : Value → Shared → Prop} {s : Shared} {v : Value} {o : Obj} {H : Heap → Prop} {Q : Value → Shared → Prop} (B : Begins v o H) (h1 : H s.heap)
    (h : ∀ h', IsEnum h' (s.heap.objs.size + 1) s.heap.objs.size 0 .none → h'.get? s.heap.objs.size = some o → h'.objs.size = s.heap.objs.size + 2 →
      (∀ b o, s.heap.get? b = some o → h'.get? b = some o) → Q (.ref (s.heap.objs.size + 1)) { s with heap := h' }) :
    wpAny (model prog w) A (call (.type "enumerate") [v]) Q E s := by
  refine callType_new F.called_enumerate (by decide) (F.typeCall_enumerate_1 _) (F.newCall_enumerate_1 _) (fun obj => F.args_object_init_2 obj _) F.entry_enumerate_new
    (meets_enum1 B) ⟨h1, ?_⟩
  have hz : (s.heap.push o).objs.size = s.heap.objs.size + 1 := Heap.size_push ..
  show _ ∧ _
  rw [hz]
  have he : IsEnum ((s.heap.push o).push { cls := .type "enumerate", data := .fields #[.none, .bool false, .ref s.heap.objs.size, rawInt 0, .none, .none] }) (s.heap.objs.size + 1) s.heap.objs.size 0 .none := by
    have := Heap.get?_push_size (s.heap.push o) (o := { cls := .type "enumerate", data := .fields #[.none, .bool false, .ref s.heap.objs.size, rawInt 0, .none, .none] }) rfl
    rw [hz] at this; exact this
  refine ⟨⟨_, he, rfl⟩, h _ he (Heap.get?_push_of_some _ (Heap.get?_push_size _ B.free)) (by rw [Heap.size_push, hz]) fun b o x => Heap.get?_push_of_some _ (Heap.get?_push_of_some _ x)⟩
def IteT (K : PySem.W.Frag) (a : Addr) : It :=
  ⟨fun i H => ∃ (xs : List V) (x : V), SqT K H a xs ∧ xs[i]? = some x, fun i H v H' => ∃ T x, v = .ref T ∧ H T = none ∧ H' = upd H T (.tup [.int (i : Nat), x]) ∧ ∀ xs, SqT K H a xs → xs[i]? = some x, fun i H => ∃ xs : List V, SqT K H a xs ∧ xs.length = i⟩
theorem turn_enumT {P : Program} {w : World} {K : PySem.W.Frag} {elts : List Expr} {kk : Nat} {tpos : Pos} (a e it : Addr) :
    Turn P w K (.Tuple elts kk tpos) (IteT K a) [e, it] e (fun i h => (∃ old, IsEnum h e it ((i : Nat) : Int) old) ∧ h.IsTupleIter it a i ∧ e ≠ it ∧ a ≠ it ∧ e ≠ a) where
  mem := by simp
  obj := fun i h st b hb => by
    obtain ⟨⟨old, he⟩, ⟨o, ho, hc, hd⟩, _⟩ := st
    have e' : b = e ∨ b = it := by simpa using hb
    rcases e' with z | z
    · rw [z]; exact ⟨_, he, fun v q => nomatch q⟩
    · rw [z]; exact ⟨o, ho, fun v q => by rw [hd] at q; cases q⟩
  keep := fun i h h' st k => let ⟨⟨old, he⟩, hi, hne⟩ := st; ⟨⟨old, k e (by simp) _ he⟩, hi.at fun o q => k it (by simp) o q, hne⟩
  item := by
    intro X hP hw hK hc i pins s σ H E I hf st hg
    subst hP hw hK
    obtain ⟨⟨old, he⟩, hit, hne, hai, hea⟩ := st
    obtain ⟨xs, x, hq, hx⟩ := hg
    obtain ⟨its, rv, p, hz⟩ := I.tuple hq
    obtain ⟨u, hu, ru⟩ := rv.get hx
    have hel : e < s.heap.objs.size := Heap.lt_size he
    have hil : it < s.heap.objs.size := by obtain ⟨_, q, _⟩ := hit; exact Heap.lt_size q
    have hdr : i < its.toArray.size := by
      have := (List.getElem?_eq_some_iff.mp hu).1
      simpa using this
    refine wpAny_pyNext_enum_itemD (Draws.tuple (A := X.A.in1) (show X.A.in1.handled = none from I.ok.hd hc) it a hai its.toArray) he ⟨hit, p⟩ hdr hne (by simp [hne, hea]) fun y h' tk hy ho hst' hT hsz hk => ?_
    have ey : y = u := by
      have hy : its.toArray[i]? = some y := hy
      have : its[i]? = some y := by simpa using hy
      rw [hu] at this; exact (Option.some.inj this).symm
    subst ey
    refine ⟨_, rfl, wpAny_letOwnedTupleGo_enum (s := { s with heap := h', toks := tk + 1 }) ho fun h'' he' sb => ?_⟩
    have hT2 : h''.get? s.heap.objs.size = some { cls := .type "tuple", data := .seq #[.int i tk, y] } := (sb.2 _ (Nat.ne_of_gt hel)).trans hT
    have new : ObjOk X.prog X.w (upd H s.heap.objs.size (.tup [.int (i : Nat), x])) h'' s.heap.objs.size (.tup [.int (i : Nat), x]) :=
      ⟨by show 2 ≤ sizeLine; decide, [.int i tk, y], .cons ⟨_, rfl⟩ (.cons ru .nil), ⟨_, hT2, rfl, _, rfl⟩⟩
    have I1 : Inv X pins σ (upd H s.heap.objs.size (.tup [.int (i : Nat), x])) { s with heap := h'', toks := tk + 1 } :=
      I.turnedNew (ch := [e, it]) (fun b ob hb q => (sb.2 b (fun z => hb (by simp [z]))).trans (hk b ob (fun z => hb (by simp [z])) (fun z => hb (by simp [z])) q)) hf (Nat.le_refl _) new
    refine ⟨.ref s.heap.objs.size, _, I1, rfl, ⟨_, x, rfl, I.hok.fresh (Nat.le_refl _), rfl, fun ys hy => by rw [I.tuple_inj hy hq]; exact hx⟩, ⟨⟨y, ?_⟩, hst'.1.at fun o q => (sb.2 it (Ne.symm hne)).trans q, hne, hai, hea⟩, fun b hb => ?_⟩
    · have e1 : ((i + 1 : Nat) : Int) = (i : Int) + 1 := by omega
      rw [e1]; exact he'
    · have hb' : b < s.heap.objs.size := by
        have e' : b = e ∨ b = it := by simpa using hb
        rcases e' with z | z
        · rw [z]; exact hel
        · rw [z]; exact hil
      rw [upd_ne (Nat.ne_of_lt hb')]
      exact (hf b hb).1
  done := by
    intro X hP hw hK hc i pins s σ H E I hf st hg
    subst hP hw hK
    obtain ⟨⟨old, he⟩, hit, hne, hai, hea⟩ := st
    obtain ⟨xs, hq, hx⟩ := hg
    obtain ⟨its, rv, p, hz⟩ := I.tuple hq
    obtain ⟨f0, f1, f2, f3, f4, f5⟩ := hf it (by simp)
    have hl := rv.length
    have hs : its.toArray.size = i := by simp; omega
    exact wpAny_pyNext_enum_endD (n := its.toArray.size) (Draws.tuple (A := X.A.in1) (show X.A.in1.handled = none from I.ok.hd hc) it a hai its.toArray) he ⟨by rw [hs]; exact hit, p⟩ fun h' eb => ⟨rfl, I.turned (t' := s.toks) (fun b o hb q => eb b o hb q) f0 f1 f3 f4 f5⟩
  self := fun A i s Q E st h => let ⟨⟨_, he⟩, _⟩ := st; wpAny_pyIter_enum he h
def iEnumT (K : PySem.W.Frag) (ta : TA) : TI := fun σ H R => ta σ H fun vs H1 => ∃ a xs, vs = [.ref a] ∧ SqT K H1 a xs ∧ R (IteT K a) H1
theorem pi_enumT {X : Cx} {e : Expr} {ta : TA} {p pos tpos : Pos} {elts : List Expr} {kk : Nat} (hg : Gl X "enumerate") (hm : X.mg "enumerate" = none) (ha : PA X [e] ta) (hs : starEach [e] X.env = [(false, eval e X.env)] := by rfl) :
    PI X (.Tuple elts kk tpos) (.Call (.Name "enumerate" p) [e] [] pos) (iEnumT X.K ta) := by
  refine ⟨fun pins s σ H R I h => ?_⟩
  refine Call_ (ld_blt I hg hm boot_enumerate (PyProof.Rows.callWith_type1 (thn (ha.run pos pins s σ H _ I h) fun us s1 ⟨vs, H1, I1, r1, q1⟩ => ?_) hs rfl))
  obtain ⟨a, xs, ex, hq, q⟩ := q1
  subst ex
  cases r1 with
  | cons r rr =>
    cases rr
    cases r
    obtain ⟨its, rv, p', hz⟩ := I1.tuple hq
    have hal : a < s1.heap.objs.size := p'.lt
    refine enum_begins1 (begins_tuple a its.toArray) p' fun h' he hit hsz hk => wpAny_pyIter_enum he ?_
    have I2 : Inv X pins σ H1 { s1 with heap := h' } := I1.kept (t' := s1.toks) hk
    refine ⟨s1.heap.objs.size + 1, [s1.heap.objs.size + 1, s1.heap.objs.size], _, _, H1, rfl, I2, turn_enumT a (s1.heap.objs.size + 1) s1.heap.objs.size, ⟨⟨.none, he⟩, ⟨_, hit, rfl, rfl⟩, Nat.succ_ne_self _, Nat.ne_of_lt hal, Nat.ne_of_gt (Nat.lt_succ_of_lt hal)⟩, fun b hb => ?_, q⟩
    have e' : b = s1.heap.objs.size + 1 ∨ b = s1.heap.objs.size := by simpa using hb
    have hle : s1.heap.objs.size ≤ b := by
      rcases e' with z | z
      · rw [z]; exact Nat.le_add_right _ _
      · rw [z]; exact Nat.le_refl _
    exact I1.fpOk hle (I1.hok.fresh hle)
end BW
namespace BW
open PySem L2
section
variable {K : PySem.W.Frag} {cl : Str → Addr} {W : WX} {σ : L2.St} {w w' : Wd} {S : Store} {H H' : Hp} {ρ : Env}
/-! ### hidden objects -/
theorem Ext.mut {a : Addr} {o : HO} (x : Ext w H w' H') (h : H a = none) : Ext w H w' (upd H' a o) := by
  refine ⟨x.n, x.k, x.F, fun b u hb hk => ?_, fun b u hb => ?_, x.newF, x.newK⟩
  · rw [upd_ne (ne_of_none hb h)]; exact x.keep b u hb hk
  · rw [upd_ne (ne_of_none hb h)]; exact x.there b u hb
theorem Ok.mut {a : Addr} {o : HO} (k : Ok K cl w S H) (h : Hid w a) : Ok K cl w S (upd H a o) := by
  refine ⟨k.len, fun b u hb => ?_, fun i c hc => ?_, k.inj⟩
  · have ne : b ≠ a := by intro e; subst e; rw [h.nF] at hb; cases hb
    rw [upd_ne ne]; exact k.sub b u hb
  · obtain ⟨h1, h2⟩ := k.cell i c hc
    have hi : i < w.n := by rw [k.len]; exact (List.getElem?_eq_some_iff.mp hc).1
    exact ⟨h1, CellOk.mono ⟨Nat.le_refl _, fun _ _ => rfl, Same.refl _⟩ (fun v hv => by rw [upd_ne (h.nK i hi)]; exact hv) h2⟩
theorem Ok.hid (k : Ok K cl w S H) {a : Addr} (h : H a = none) : Hid w a := by
  refine ⟨?_, fun i hi e => ?_⟩
  · cases q : w.F a with
    | none => rfl
    | some u => rw [k.sub a u q] at h; cases h
  · have hi' : i < S.length := by rw [← k.len]; exact hi
    obtain ⟨_, h2⟩ := k.cell i S[i] (by simp [hi'])
    obtain ⟨u, hu⟩ := h2.there
    rw [e, h] at hu; cases hu
theorem Ok.freeze {a : Addr} {o : HO} (k : Ok K cl w S H) (h : Hid w a) (ha : H a = some o) : Ok K cl (w.lay a o) S H := by
  have le : Le w (w.lay a o) := ⟨Nat.le_refl _, fun _ _ => rfl, fun b u hb => by
    show upd w.F a o b = some u
    rw [upd_ne (ne_of_none hb h.nF)]; exact hb⟩
  refine ⟨k.len, fun b u hb => ?_, fun i c hc => ?_, k.inj⟩
  · have hb : upd w.F a o b = some u := hb
    by_cases e : b = a
    · subst e; rw [upd_same] at hb; cases hb; exact ha
    · rw [upd_ne e] at hb; exact k.sub b u hb
  · obtain ⟨h1, h2⟩ := k.cell i c hc
    have hi : i < w.n := by rw [k.len]; exact (List.getElem?_eq_some_iff.mp hc).1
    refine ⟨?_, CellOk.mono le (fun v hv => hv) h2⟩
    show upd w.F a o (w.k i) = none
    rw [upd_ne (h.nK i hi)]; exact h1
theorem Le.lay {a : Addr} {o : HO} (h : w.F a = none) : Le w (w.lay a o) := ⟨Nat.le_refl _, fun _ _ => rfl, fun b u hb => by
    show upd w.F a o b = some u
    rw [upd_ne (ne_of_none hb h)]; exact hb⟩
theorem Ext.freeze {a : Addr} {o : HO} (x : Ext w H w' H') (h : w'.F a = none) (ha : H a = none) : Ext w H (w'.lay a o) H' := by
  refine ⟨x.n, x.k, x.F.trans (Le.lay h).F, x.keep, x.there, fun b u hb => ?_, x.newK⟩
  have hb : upd w'.F a o b = some u := hb
  by_cases e : b = a
  · subst e; exact .inr ha
  · rw [upd_ne e] at hb; exact x.newF b u hb

/-! ### slots -/
theorem EnvR.setD {i : Nat} {v : V} {d : D} (f : EnvR K w H σ ρ) (r : R K w v d) : EnvR K w H (σ.set i (some v)) (ρ.set i (some (.dat d))) := by
  refine ⟨by simp [f.len], fun j s hs => ?_, fun j l s t u hjl hs ht os ot hj hl => ?_⟩
  · by_cases e : j = i
    · subst e
      have hj : j < ρ.length := by
        have := (List.getElem?_eq_some_iff.mp hs).1
        simpa using this
      rw [List.getElem?_set_self hj] at hs
      cases hs
      exact ⟨v, by rw [List.getElem?_set_self (by rw [f.len]; exact hj)], r⟩
    · rw [List.getElem?_set_ne (Ne.symm e)] at hs ⊢
      exact f.slot j s hs
  · by_cases e : j = i
    · subst e
      by_cases hj : j < ρ.length
      · rw [List.getElem?_set_self hj] at hs; cases hs; cases os
      · rw [List.getElem?_eq_none (by simpa using Nat.le_of_not_lt hj)] at hs; cases hs
    · by_cases e2 : l = i
      · subst e2
        by_cases hj : l < ρ.length
        · rw [List.getElem?_set_self hj] at ht; cases ht; cases ot
        · rw [List.getElem?_eq_none (by simpa using Nat.le_of_not_lt hj)] at ht; cases ht
      · rw [List.getElem?_set_ne (Ne.symm e)] at hs hj
        rw [List.getElem?_set_ne (Ne.symm e2)] at ht hl
        exact f.sep j l s t u hjl hs ht os ot hj hl
theorem EnvR.setN {i : Nat} (f : EnvR K w H σ ρ) : EnvR K w H (σ.set i none) (ρ.set i none) := by
  have ne : ∀ {j : Nat} {s : Slot}, (ρ.set i none)[j]? = some (some s) → j ≠ i ∧ ρ[j]? = some (some s) := fun {j s} hs => by
    by_cases e : j = i
    · subst e
      by_cases hj : j < ρ.length
      · rw [List.getElem?_set_self hj] at hs; cases hs
      · rw [List.getElem?_eq_none (by simpa using Nat.le_of_not_lt hj)] at hs; cases hs
    · rw [List.getElem?_set_ne (Ne.symm e)] at hs; exact ⟨e, hs⟩
  refine ⟨by simp [f.len], fun j s hs => ?_, fun j l s t u hjl hs ht os ot hj hl => ?_⟩
  · obtain ⟨e, hs⟩ := ne hs
    rw [List.getElem?_set_ne (Ne.symm e)]
    exact f.slot j s hs
  · obtain ⟨e, hs⟩ := ne hs
    obtain ⟨e2, ht⟩ := ne ht
    rw [List.getElem?_set_ne (Ne.symm e)] at hj
    rw [List.getElem?_set_ne (Ne.symm e2)] at hl
    exact f.sep j l s t u hjl hs ht os ot hj hl
def wipeE (ρ : Env) : List Nat → Env
  | [] => ρ
  | v :: vs => (wipeE ρ vs).set v none
theorem EnvR.wipe (f : EnvR K w H σ ρ) : ∀ vs : List Nat, EnvR K w H (L2.wipe σ vs) (wipeE ρ vs)
  | [] => f
  | v :: vs => (EnvR.wipe f vs).setN
theorem wipe_get (σ : L2.St) : ∀ (vs : List Nat) (i : Nat), (L2.wipe σ vs)[i]? = if i ∈ vs ∧ i < σ.length then some none else σ[i]?
  | [], i => by simp [L2.wipe]
  | v :: vs, i => by
    unfold L2.wipe
    by_cases e : i = v
    · subst e
      by_cases hi : i < σ.length
      · rw [List.getElem?_set_self (by rw [wipe_length]; exact hi), if_pos ⟨by simp, hi⟩]
      · rw [if_neg (fun h => hi h.2), List.getElem?_eq_none (by rw [List.length_set, wipe_length]; exact Nat.le_of_not_lt hi), List.getElem?_eq_none (Nat.le_of_not_lt hi)]
    · rw [List.getElem?_set_ne (Ne.symm e), wipe_get σ vs i]
      simp [e]
theorem wipe_same {σ σ2 : L2.St} {vs : List Nat} (hl : σ2.length = σ.length) (h : ∀ i, i ∉ vs → σ2[i]? = (L2.wipe σ vs)[i]?) : L2.wipe σ2 vs = L2.wipe σ vs := by
  refine List.ext_getElem? fun i => ?_
  rw [wipe_get, wipe_get, hl]
  by_cases hi : i ∈ vs
  · by_cases hn : i < σ.length
    · rw [if_pos ⟨hi, hn⟩, if_pos ⟨hi, hn⟩]
    · rw [if_neg (fun h => hn h.2), if_neg (fun h => hn h.2), List.getElem?_eq_none (by omega), List.getElem?_eq_none (by omega)]
  · rw [if_neg (fun h => hi h.1), if_neg (fun h => hi h.1), h i hi, wipe_get, if_neg (fun h => hi h.1)]
end

/-! ### a new list -/
section
variable (K : PySem.W.Frag) (cl : Str → Addr)
def PostL (W : WX) (σ : L2.St) (w : Wd) (H : Hp) (r : Res (List D)) (Q : VK) : Prop := match r with
  | .ok l S' => ∀ w' a vs H', Ext w H w' H' → Ok K cl w' S' H' → H a = none → H' a = some (.lst vs) → Hid w' a → RA K w' vs l → Q (.ref a) H'
  | .err c S' => ∀ w' H', Ext w H w' H' → Ok K cl w' S' H' → W (.ref (cl c)) none σ H'
  | .bad => False
def tL (W : WX) (f : Env → Store → Res (List D)) : TE := fun σ H Q => ∃ w ρ S, Ok K cl w S H ∧ EnvR K w H σ ρ ∧ PostL K cl W σ w H (f ρ S) Q
end
abbrev DL (X : Cx) (cl : Str → Addr) (W : WX) (e : Expr) (f : Env → Store → Res (List D)) : Prop := PE X e (tL X.K cl W f)
def fFrz (f : Env → Store → Res (List D)) : Env → Store → Res D := fun ρ S => (f ρ S).bind fun l S1 => .ok (.lst l) S1
theorem postL_frz {K : PySem.W.Frag} {cl : Str → Addr} {W : WX} {σ : L2.St} {w : Wd} {H : Hp} {r : Res (List D)} {Q : VK} (h : Post K cl W σ (R K) w H (r.bind fun l S1 => .ok (.lst l) S1) Q) : PostL K cl W σ w H r Q := by
  cases r with
  | ok l S => exact fun w' a vs H' x o ha h' hi ra => h _ _ _ (x.freeze hi.nF ha) (o.freeze hi h') (.lst upd_same (ra.mono (Le.lay hi.nF)))
  | err c S => exact h
  | bad => exact h
theorem DL.de {X : Cx} {cl : Str → Addr} {W : WX} {e : Expr} {f : Env → Store → Res (List D)} (h : DL X cl W e f) : DE X cl W e (fFrz f) :=
  PE.imp h fun σ H Q ⟨w, ρ, S, o, n, p⟩ => ⟨w, ρ, S, o, n, postL_frz p⟩

/-! ### sources -/
section
variable {X : Cx} {cl : Str → Addr} {W : WX} {tg iter : Expr}
theorem PI.or {t t' : TI} (h : PI X tg iter t) (h' : PI X tg iter t') : PI X tg iter (fun σ H Q => t σ H Q ∨ t' σ H Q) := ⟨fun pins s σ H Q I q => q.elim (h.run pins s σ H Q I) (h'.run pins s σ H Q I)⟩
def fItems (f : Env → Store → Res D) : Env → Store → Res (List D) := fun ρ S => (f ρ S).bind fun d S1 => match d with
  | .lst l => .ok l S1
  | .tup l => .ok l S1
  | .str x => .ok (x.cps.toList.map fun c => .str ⟨#[c]⟩) S1
  | .dic kvs => .ok (kvs.map fun kv => kD kv.1) S1
  | _ => .bad
theorem walks_list {K : PySem.W.Frag} {w : Wd} {a : Addr} {vs : List V} {l : List D} (h : w.F a = some (.lst vs)) (r : RA K w vs l) : Walks K cl (Itl K a) w l := by
  intro i w1 S1 H1 le ok
  have sq : SqL K H1 a vs := ok.sqL (le.F _ _ h)
  refine ⟨fun d hd => ?_, fun hl => ⟨vs, sq, by rw [r.length]; exact Nat.le_of_eq hl⟩⟩
  obtain ⟨v, hv, rv⟩ := r.get hd
  refine ⟨⟨vs, v, sq, hv⟩, fun x H2 ⟨e, hx⟩ => ?_⟩
  subst e
  have := hx vs sq
  rw [hv] at this; cases this
  exact ⟨w1, Ext.refl _ _, ok, rv.mono le⟩
theorem walks_tup {K : PySem.W.Frag} {w : Wd} {a : Addr} {vs : List V} {l : List D} (h : SqT K w.F a vs) (r : RA K w vs l) : Walks K cl (Itt K a) w l := by
  intro i w1 S1 H1 le ok
  have sq : SqT K H1 a vs := ok.sqT (SqT.mono le.F h)
  refine ⟨fun d hd => ?_, fun hl => ⟨vs, sq, by rw [r.length]; exact Nat.le_of_eq hl⟩⟩
  obtain ⟨v, hv, rv⟩ := r.get hd
  refine ⟨⟨vs, v, sq, hv⟩, fun x H2 ⟨e, hx⟩ => ?_⟩
  subst e
  have := hx vs sq
  rw [hv] at this; cases this
  exact ⟨w1, Ext.refl _ _, ok, rv.mono le⟩
theorem walks_str {K : PySem.W.Frag} {w : Wd} (x : Str) : Walks K cl (Its x) w (x.cps.toList.map fun c => .str ⟨#[c]⟩) := by
  intro i w1 S1 H1 le ok
  refine ⟨fun d hd => ?_, fun hl => by rw [List.length_map, Array.length_toList] at hl; exact Nat.le_of_eq hl⟩
  rw [List.getElem?_map] at hd
  cases hc : x.cps.toList[i]? with
  | none => rw [hc] at hd; cases hd
  | some c =>
    rw [hc] at hd; cases hd
    have hc' : x.cps[i]? = some c := by simpa using hc
    refine ⟨(Array.getElem?_eq_some_iff.mp hc').1, fun v H2 ⟨e, c2, h2, e2⟩ => ?_⟩
    subst e e2
    rw [hc'] at h2; cases h2
    exact ⟨w1, Ext.refl _ _, ok, .str _⟩
theorem walks_keys {K : PySem.W.Frag} {w : Wd} {a : Addr} {q : Obj} {vs : List (Key × V)} {l : List (Key × D)} (h : w.F a = some (.frz q (.dK vs))) (r : RK K w vs l) : Walks K cl (Itk a q vs) w (l.map fun kv => kD kv.1) := by
  intro i w1 S1 H1 le ok
  have hd := ok.sub _ _ (le.F _ _ h)
  refine ⟨fun d hi => ?_, fun hl => ⟨hd, by rw [r.length, ← hl]; simp⟩⟩
  rw [List.getElem?_map] at hi
  cases hv : l[i]? with
  | none => rw [hv] at hi; cases hi
  | some kv =>
    rw [hv] at hi
    cases hi
    have il : i < l.length := (List.getElem?_eq_some_iff.mp hv).1
    refine ⟨⟨hd, by rw [r.length]; exact il⟩, fun x H2 y => ?_⟩
    obtain ⟨rfl, k, v, hk, rfl⟩ := y
    refine ⟨w1, Ext.refl _ _, ok, ?_⟩
    have e1 : (vs.map (·.1))[i]? = some k := by rw [List.getElem?_map, hk]; rfl
    have e2 : (l.map (·.1))[i]? = some kv.1 := by rw [List.getElem?_map, hv]; rfl
    rw [r.keys, e2] at e1
    cases e1
    exact kD_R _
theorem di_seq {f : Env → Store → Res D} (h : DE X cl W iter f) : DI X cl W tg iter (fItems f) := by
  refine PI.imp (PI.or (pi_list h) (PI.or (pi_tup h) (PI.or (pi_str h) (pi_keys h)))) fun σ H Q ⟨w, ρ, S, o, n, p⟩ => ?_
  unfold fItems at p
  cases hf : f ρ S with
  | bad => rw [hf] at p; exact p.elim
  | err c S1 =>
    rw [hf] at p
    refine .inl (tG.at o n ?_)
    rw [hf]
    exact p
  | ok d S1 =>
    rw [hf] at p
    simp only [Res.bind] at p
    cases d with
    | lst l =>
      refine .inl (tG.at o n ?_)
      rw [hf]
      intro w1 v H1 e1 o1 r1
      obtain ⟨a, vs, rfl, ha, ra⟩ := r1.lst_inv
      exact ⟨a, rfl, ⟨vs, o1.sqL ha⟩, p w1 H1 _ e1 o1 (walks_list ha ra)⟩
    | tup l =>
      refine .inr (.inl (tG.at o n ?_))
      rw [hf]
      intro w1 v H1 e1 o1 r1
      obtain ⟨a, vs, rfl, ha, ra⟩ := r1.tup_inv
      exact ⟨a, rfl, ⟨vs, o1.sqT ha⟩, p w1 H1 _ e1 o1 (walks_tup ha ra)⟩
    | str x =>
      refine .inr (.inr (.inl (tG.at o n ?_)))
      rw [hf]
      intro w1 v H1 e1 o1 r1
      cases r1
      exact ⟨x, rfl, p w1 H1 _ e1 o1 (walks_str x)⟩
    | dic l =>
      refine .inr (.inr (.inr (tG.at o n ?_)))
      rw [hf]
      intro w1 v H1 e1 o1 r1
      obtain ⟨a, q, vs, rfl, ha, ra⟩ := r1.dic_frz
      exact ⟨a, q, rfl, .inl ⟨vs, o1.sub _ _ ha, p w1 H1 _ e1 o1 (walks_keys ha ra)⟩⟩
    | _ => exact p.elim
/-- range -/
def rngD (lo : Int) (n : Nat) : List D := (List.range n).map fun i => .int (lo + (i : Nat))
theorem walks_rng {K : PySem.W.Frag} {w : Wd} (lo : Int) (n : Nat) : Walks K cl (Itr lo n) w (rngD lo n) := by
  intro i w1 S1 H1 le ok
  refine ⟨fun d hd => ?_, fun hl => by unfold rngD at hl; rw [List.length_map, List.length_range] at hl; exact Nat.le_of_eq hl⟩
  unfold rngD at hd
  rw [List.getElem?_map] at hd
  by_cases hi : i < n
  · rw [List.getElem?_range hi] at hd
    cases hd
    exact ⟨hi, fun v H2 ⟨e, e2⟩ => by subst e e2; exact ⟨w1, Ext.refl _ _, ok, .int _⟩⟩
  · rw [List.getElem?_eq_none (by simpa using Nat.le_of_not_lt hi)] at hd
    cases hd
/-- a source that evaluates its arguments first -/
def fI (k : List D → Option (List D)) (fa : Env → Store → Res (List D)) : Env → Store → Res (List D) := fun ρ S => (fa ρ S).bind fun ds S1 => Res.of S1 (k ds)
theorem tI_args {fa : Env → Store → Res (List D)} {k : List D → Option (List D)} {σ : L2.St} {H : Hp} {Q : It → Hp → Prop} {Q1 : List V → Hp → Prop} (h : tI X.K cl W (fI k fa) σ H Q)
    (hk : ∀ ds l S1 w1 vs H1, Ok X.K cl w1 S1 H1 → RA X.K w1 vs ds → k ds = some l → (∀ J, Walks X.K cl J w1 l → Q J H1) → Q1 vs H1) : tG X.K cl W (RA X.K) fa σ H Q1 := by
  obtain ⟨w, ρ, S, o, n, p⟩ := h
  refine tG.at o n ?_
  unfold fI at p
  cases hf : fa ρ S with
  | bad => rw [hf] at p; exact p
  | err c S1 => rw [hf] at p; exact p
  | ok ds S1 =>
    rw [hf] at p
    intro w1 vs H1 e1 o1 r1
    cases hkk : k ds with
    | none => simp only [Res.bind, hkk, Res.of] at p
    | some l =>
      simp only [Res.bind, hkk, Res.of] at p
      exact hk ds l S1 w1 vs H1 o1 r1 hkk fun J wk => p w1 H1 J e1 o1 wk
def kRng1 : List D → Option (List D)
  | [.int j] => if -(2 ^ 62) ≤ j ∧ j < 2 ^ 62 then some (rngD 0 j.toNat) else none
  | _ => none
def kRng2 : List D → Option (List D)
  | [.int i, .int j] => if -(2 ^ 62) ≤ i ∧ i < 2 ^ 62 ∧ -(2 ^ 62) ≤ j ∧ j < 2 ^ 62 then some (rngD i (j - i).toNat) else none
  | _ => none
theorem ra1 {K : PySem.W.Frag} {w : Wd} {vs : List V} {d : D} (r : RA K w vs [d]) : ∃ v, vs = [v] ∧ R K w v d := by
  cases r with
  | cons r t => cases t; exact ⟨_, rfl, r⟩
theorem ra2 {K : PySem.W.Frag} {w : Wd} {vs : List V} {d e : D} (r : RA K w vs [d, e]) : ∃ v u, vs = [v, u] ∧ R K w v d ∧ R K w u e := by
  cases r with
  | cons r t =>
    obtain ⟨u, rfl, r2⟩ := ra1 t
    exact ⟨_, _, rfl, r, r2⟩
theorem di_rng1 {a : Expr} {p pos : Pos} {fa : Env → Store → Res (List D)} (hg : Gl X "range") (hm : X.mg "range" = none) (ha : DA X cl W [a] fa) (hs : starEach [a] X.env = [(false, eval a X.env)] := by rfl) : DI X cl W tg (.Call (.Name "range" p) [a] [] pos) (fI kRng1 fa) := by
  refine PI.imp (pi_range1 hg hm ha hs) fun σ H Q h => tI_args h fun ds l S1 w1 vs H1 o1 r1 hk q => ?_
  unfold kRng1 at hk
  split at hk
  · rename_i j
    obtain ⟨v, rfl, rv⟩ := ra1 r1
    cases rv
    split at hk
    · rename_i hj
      cases hk
      exact ⟨j, rfl, hj.1, hj.2, q _ (walks_rng 0 j.toNat)⟩
    · cases hk
  · cases hk
theorem di_rng2 {a b : Expr} {p pos : Pos} {fa : Env → Store → Res (List D)} (hg : Gl X "range") (hm : X.mg "range" = none) (ha : DA X cl W [a, b] fa) (hs : starEach [a, b] X.env = [(false, eval a X.env), (false, eval b X.env)] := by rfl) (hs2 : starEach [b] X.env = [(false, eval b X.env)] := by rfl) : DI X cl W tg (.Call (.Name "range" p) [a, b] [] pos) (fI kRng2 fa) := by
  refine PI.imp (pi_range2 hg hm ha hs hs2) fun σ H Q h => tI_args h fun ds l S1 w1 vs H1 o1 r1 hk q => ?_
  unfold kRng2 at hk
  split at hk
  · rename_i i j
    obtain ⟨v, u, rfl, rv, ru⟩ := ra2 r1
    cases rv; cases ru
    split at hk
    · rename_i hj
      cases hk
      exact ⟨i, j, rfl, hj, q _ (walks_rng i (j - i).toNat)⟩
    · cases hk
  · cases hk
/-- enumerate, zip -/
def enumD (l : List D) : List D := l.mapIdx fun i d => .tup [.int (i : Nat), d]
def zipD (a b : List D) : List D := List.zipWith (fun x y => .tup [x, y]) a b
def kEnum : List D → Option (List D)
  | [.lst l] => some (enumD l)
  | [.tup l] => some (enumD l)
  | _ => none
def kZip : List D → Option (List D)
  | [.lst a, .lst b] => some (zipD a b)
  | [.tup a, .tup b] => some (zipD a b)
  | _ => none
theorem walks_enumL {K : PySem.W.Frag} {w : Wd} {a : Addr} {vs : List V} {l : List D} (h : w.F a = some (.lst vs)) (r : RA K w vs l) : Walks K cl (Ite K a) w (enumD l) := by
  intro i w1 S1 H1 le ok
  have sq : SqL K H1 a vs := ok.sqL (le.F _ _ h)
  refine ⟨fun d hd => ?_, fun hl => ⟨vs, sq, by rw [r.length, ← hl]; simp [enumD]⟩⟩
  unfold enumD at hd
  rw [List.getElem?_mapIdx] at hd
  cases hc : l[i]? with
  | none => rw [hc] at hd; cases hd
  | some x =>
    rw [hc] at hd; cases hd
    obtain ⟨v, hv, rv⟩ := r.get hc
    refine ⟨⟨vs, v, sq, hv⟩, fun y H2 ⟨T, x2, e1, hT, e2, hx⟩ => ?_⟩
    subst e1 e2
    have := hx vs sq
    rw [hv] at this; cases this
    obtain ⟨e, o, rr⟩ := ok.layT hT (RA.cons (.int _) (RA.cons (rv.mono le) .nil))
    exact ⟨_, e, o, rr⟩
theorem walks_enumT {K : PySem.W.Frag} {w : Wd} {a : Addr} {vs : List V} {l : List D} (h : SqT K w.F a vs) (r : RA K w vs l) : Walks K cl (IteT K a) w (enumD l) := by
  intro i w1 S1 H1 le ok
  have sq : SqT K H1 a vs := ok.sqT (SqT.mono le.F h)
  refine ⟨fun d hd => ?_, fun hl => ⟨vs, sq, by rw [r.length, ← hl]; simp [enumD]⟩⟩
  unfold enumD at hd
  rw [List.getElem?_mapIdx] at hd
  cases hc : l[i]? with
  | none => rw [hc] at hd; cases hd
  | some x =>
    rw [hc] at hd; cases hd
    obtain ⟨v, hv, rv⟩ := r.get hc
    refine ⟨⟨vs, v, sq, hv⟩, fun y H2 ⟨T, x2, e1, hT, e2, hx⟩ => ?_⟩
    subst e1 e2
    have := hx vs sq
    rw [hv] at this; cases this
    obtain ⟨e, o, rr⟩ := ok.layT hT (RA.cons (.int _) (RA.cons (rv.mono le) .nil))
    exact ⟨_, e, o, rr⟩
theorem zip_get {a b : List D} {i : Nat} {d : D} (h : (zipD a b)[i]? = some d) : ∃ x y, a[i]? = some x ∧ b[i]? = some y ∧ d = .tup [x, y] := by
  unfold zipD at h
  rw [List.getElem?_zipWith] at h
  cases ha : a[i]? with
  | none => rw [ha] at h; cases h
  | some x =>
    cases hb : b[i]? with
    | none => rw [ha, hb] at h; cases h
    | some y => rw [ha, hb] at h; cases h; exact ⟨x, y, rfl, rfl, rfl⟩
theorem walks_zipL {K : PySem.W.Frag} {w : Wd} {a b : Addr} {vs us : List V} {l m : List D} (h : w.F a = some (.lst vs)) (r : RA K w vs l) (h2 : w.F b = some (.lst us)) (r2 : RA K w us m) : Walks K cl (Itz K a b) w (zipD l m) := by
  intro i w1 S1 H1 le ok
  have sq : SqL K H1 a vs := ok.sqL (le.F _ _ h)
  have sq2 : SqL K H1 b us := ok.sqL (le.F _ _ h2)
  refine ⟨fun d hd => ?_, fun hl => ⟨vs, us, sq, sq2, by
    rw [r.length, r2.length]
    unfold zipD at hl
    rw [List.length_zipWith] at hl
    omega⟩⟩
  obtain ⟨x, y, hx, hy, rfl⟩ := zip_get hd
  obtain ⟨v, hv, rv⟩ := r.get hx
  obtain ⟨u, hu, ru⟩ := r2.get hy
  refine ⟨⟨vs, us, v, u, sq, sq2, hv, hu⟩, fun z H2 ⟨T, x2, y2, e1, hT, e2, hx2, hy2⟩ => ?_⟩
  subst e1 e2
  have := hx2 vs sq
  rw [hv] at this; cases this
  have := hy2 us sq2
  rw [hu] at this; cases this
  obtain ⟨e, o, rr⟩ := ok.layT hT (RA.cons (rv.mono le) (RA.cons (ru.mono le) .nil))
  exact ⟨_, e, o, rr⟩
theorem walks_zipT {K : PySem.W.Frag} {w : Wd} {a b : Addr} {vs us : List V} {l m : List D} (h : SqT K w.F a vs) (r : RA K w vs l) (h2 : SqT K w.F b us) (r2 : RA K w us m) : Walks K cl (RZ.ItzT K a b) w (zipD l m) := by
  intro i w1 S1 H1 le ok
  have sq : SqT K H1 a vs := ok.sqT (SqT.mono le.F h)
  have sq2 : SqT K H1 b us := ok.sqT (SqT.mono le.F h2)
  refine ⟨fun d hd => ?_, fun hl => ⟨vs, us, sq, sq2, by
    rw [r.length, r2.length]
    unfold zipD at hl
    rw [List.length_zipWith] at hl
    omega⟩⟩
  obtain ⟨x, y, hx, hy, rfl⟩ := zip_get hd
  obtain ⟨v, hv, rv⟩ := r.get hx
  obtain ⟨u, hu, ru⟩ := r2.get hy
  refine ⟨⟨vs, us, v, u, sq, sq2, hv, hu⟩, fun z H2 ⟨T, x2, y2, e1, hT, e2, hx2, hy2⟩ => ?_⟩
  subst e1 e2
  have := hx2 vs sq
  rw [hv] at this; cases this
  have := hy2 us sq2
  rw [hu] at this; cases this
  obtain ⟨e, o, rr⟩ := ok.layT hT (RA.cons (rv.mono le) (RA.cons (ru.mono le) .nil))
  exact ⟨_, e, o, rr⟩
theorem di_enum {a : Expr} {p pos tpos : Pos} {elts : List Expr} {kk : Nat} {fa : Env → Store → Res (List D)} (hg : Gl X "enumerate") (hm : X.mg "enumerate" = none) (ha : DA X cl W [a] fa) (hs : starEach [a] X.env = [(false, eval a X.env)] := by rfl) : DI X cl W (.Tuple elts kk tpos) (.Call (.Name "enumerate" p) [a] [] pos) (fI kEnum fa) := by
  refine PI.imp (PI.or (pi_enum hg hm ha hs) (pi_enumT hg hm ha hs)) fun σ H Q h => ?_
  have key : ∀ ds, (∃ l, ds = [D.lst l]) ∨ (∀ l m, kEnum ds = some l → ds = [D.tup m] → True) := fun ds => .inr fun _ _ _ _ => trivial
  obtain ⟨w, ρ, S, o, n, p⟩ := id h
  by_cases hl : ∃ l S1, fa ρ S = .ok [.lst l] S1
  · refine .inl ?_
    obtain ⟨l, S1, hf⟩ := hl
    refine tG.at o n ?_
    rw [hf]
    intro w1 vs H1 e1 o1 r1
    simp only [fI, hf, Res.bind, kEnum, Res.of] at p
    obtain ⟨v, rfl, rv⟩ := ra1 r1
    obtain ⟨a, us, rfl, h1, h2⟩ := rv.lst_inv
    exact ⟨a, us, rfl, o1.sqL h1, p w1 H1 _ e1 o1 (walks_enumL h1 h2)⟩
  · refine .inr (tG.at o n ?_)
    cases hf : fa ρ S with
    | bad => simp only [fI, hf, Res.bind] at p
    | err c S1 => simp only [fI, hf, Res.bind] at p; exact p
    | ok ds S1 =>
      intro w1 vs H1 e1 o1 r1
      simp only [fI, hf, Res.bind] at p
      cases hk : kEnum ds with
      | none => simp only [hk, Res.of] at p
      | some z =>
        simp only [hk, Res.of] at p
        unfold kEnum at hk
        split at hk
        · exact absurd ⟨_, _, hf⟩ hl
        · cases hk
          obtain ⟨v, rfl, rv⟩ := ra1 r1
          obtain ⟨a, us, rfl, h1, h2⟩ := rv.tup_inv
          exact ⟨a, us, rfl, o1.sqT h1, p w1 H1 _ e1 o1 (walks_enumT h1 h2)⟩
        · cases hk
theorem di_zip {a b : Expr} {p pos tpos : Pos} {elts : List Expr} {kk : Nat} {fa : Env → Store → Res (List D)} (hg : Gl X "zip") (hm : X.mg "zip" = none) (ha : DA X cl W [a, b] fa) (hs : starEach [a, b] X.env = (false, eval a X.env) :: starEach [b] X.env := by rfl) (hpl : (backTo pos (starEach [b] X.env)).any (·.1) = false := by rfl) : DI X cl W (.Tuple elts kk tpos) (.Call (.Name "zip" p) [a, b] [] pos) (fI kZip fa) := by
  refine PI.imp (RZ.pi_zipA hg hm ha hs hpl) fun σ H Q h => tI_args h fun ds l S1 w1 vs H1 o1 r1 hk q => ?_
  unfold kZip at hk
  split at hk
  · cases hk
    obtain ⟨v, u, rfl, rv, ru⟩ := ra2 r1
    obtain ⟨a, xs, rfl, h1, h2⟩ := rv.lst_inv
    obtain ⟨b, ys, rfl, h3, h4⟩ := ru.lst_inv
    exact ⟨a, b, xs, ys, rfl, .inl ⟨o1.sqL h1, o1.sqL h3, q _ (walks_zipL h1 h2 h3 h4)⟩⟩
  · cases hk
    obtain ⟨v, u, rfl, rv, ru⟩ := ra2 r1
    obtain ⟨a, xs, rfl, h1, h2⟩ := rv.tup_inv
    obtain ⟨b, ys, rfl, h3, h4⟩ := ru.tup_inv
    exact ⟨a, b, xs, ys, rfl, .inr ⟨o1.sqT h1, o1.sqT h3, q _ (walks_zipT h1 h2 h3 h4)⟩⟩
  · cases hk
end
end BW
namespace BW
open PySem L2
abbrev W0 : WX := fun _ _ _ _ => False
/-! ### targets in a block -/
def gE (K : PySem.W.Frag) (cl : Str → Addr) (ks : List Nat) (t : Tgt) : TG := fun v σ H Q => ∃ w ρ S d ρ', Ok K cl w S H ∧ EnvR K w H σ ρ ∧ R K w v d ∧ t d ρ = some ρ' ∧ ∀ σ', EnvR K w H σ' ρ' → σ'.length = σ.length → (∀ i, i ∉ ks → σ'[i]? = σ[i]?) → Q σ' H
def gEs (K : PySem.W.Frag) (cl : Str → Addr) (ks : List Nat) (t : Tgts) : TGs := fun vs σ H Q => ∃ w ρ S ds ρ', Ok K cl w S H ∧ EnvR K w H σ ρ ∧ RA K w vs ds ∧ t ds ρ = some ρ' ∧ ∀ σ', EnvR K w H σ' ρ' → σ'.length = σ.length → (∀ i, i ∉ ks → σ'[i]? = σ[i]?) → Q σ' H
section
variable {X : Cx} {cl : Str → Addr} {W : WX} {ks : List Nat} {pos : Pos}
theorem eg_name {i : Nat} {x : Str} (hk : i ∈ ks) (hN : X.N.Nodup) (hi : X.N[i]? = some x) (hx : Loc X.env.scope x) (hf : X.fn x = true ∨ X.env.scope.names.lookup x = some .local := by first | exact .inl rfl | exact .inr rfl | assumption) : PG X (.Name x pos) (gE X.K cl ks (tgName i)) :=
  PG.imp (pg_name hN hi hx hf) fun v σ H Q ⟨w, ρ, S, d, ρ', o, n, r, ht, q⟩ => by
    cases ht
    exact q _ (n.setD r) (by simp) fun j hj => List.getElem?_set_ne (fun e : i = j => hj (e ▸ hk))
theorem egs_nil : PGs X [] (gEs X.K cl ks tgNil) := PGs.imp pgs_nil fun vs σ H Q ⟨w, ρ, S, ds, ρ', o, n, r, ht, q⟩ => by
  cases r with
  | nil => cases ht; exact ⟨rfl, q σ n rfl fun _ _ => rfl⟩
  | cons => cases ht
theorem egs_cons {ex : Expr} {es : List Expr} {t : Tgt} {u : Tgts} (h1 : PG X ex (gE X.K cl ks t)) (h2 : PGs X es (gEs X.K cl ks u))
    (hs : (assignEach (ex :: es) X.env).map (·.2) = assign ex X.env :: (assignEach es X.env).map (·.2) := by rfl) : PGs X (ex :: es) (gEs X.K cl ks (tgCons t u)) := PGs.imp (pgs_cons h1 h2 hs) fun vs σ H Q ⟨w, ρ, S, ds, ρ', o, n, r, ht, q⟩ => by
  cases r with
  | nil => cases ht
  | @cons v d vs ds r rr =>
    have ht : (t d ρ).bind (u ds) = some ρ' := ht
    cases h : t d ρ with
    | none => rw [h] at ht; cases ht
    | some ρ1 =>
      rw [h] at ht
      exact ⟨v, vs, rfl, w, ρ, S, d, ρ1, o, n, r, h, fun σ1 n1 l1 k1 => ⟨w, ρ1, S, ds, ρ', o, n1, rr, ht, fun σ2 n2 l2 k2 => q σ2 n2 (l2.trans l1) fun i hi => (k2 i hi).trans (k1 i hi)⟩⟩
theorem eg_tup {es : List Expr} {k n : Nat} {u : Tgts} (hc : X.calm = true) (h : PGs X es (gEs X.K cl ks u)) (hn : (assignEach es X.env).length = n := by rfl) (hst : (assignEach es X.env).findIdx? (·.1) = none := by rfl) :
    PG X (.Tuple es k pos) (gE X.K cl ks (tgTup n u)) := PG.imp (pg_tup hc h hn hst) fun v σ H Q ⟨w, ρ, S, d, ρ', o, en, r, ht, q⟩ => by
  cases d <;> try (simp only [tgTup] at ht; cases ht)
  rename_i l
  simp only [tgTup] at ht
  split at ht
  · rename_i hl
    obtain ⟨a, vs, rfl, ha, ra⟩ := r.tup_inv
    exact ⟨a, vs, rfl, o.sqT ha, by rw [ra.length]; exact hl, w, ρ, S, l, ρ', o, en, ra, ht, q⟩
  · cases ht
end
/-! ### comprehensions -/
def noErr {α : Type} : Res α → Res α
  | .ok a S => .ok a S
  | _ => .bad
def compL (t : Tgt) (ft : Env → Store → Res Bool) (fe : Env → Store → Res D) (ρ : Env) : List D → Store → List D → Res (List D)
  | [], S, acc => .ok acc S
  | x :: xs, S, acc => match t x ρ with
    | none => .bad
    | some ρ1 => (noErr (ft ρ1 S)).bind fun b S1 => if b = true then (noErr (fe ρ1 S1)).bind fun y S2 => if acc.length < LIM then compL t ft fe ρ xs S2 (acc ++ [y]) else .bad else compL t ft fe ρ xs S1 acc
def fComp (fi : Env → Store → Res (List D)) (t : Tgt) (ft : Env → Store → Res Bool) (fe : Env → Store → Res D) (vs : List Nat) : Env → Store → Res (List D) := fun ρ S => (fi ρ S).bind fun ds S1 => compL t ft fe (wipeE ρ vs) ds S1 []
def fYes : Env → Store → Res Bool := fun _ S => .ok true S
theorem PTs.imp {X : Cx} {e : List Expr} {t t' : TT} (h : PTs X e t) (i : ∀ σ H Q, t' σ H Q → t σ H Q) : PTs X e t' := ⟨fun pins s σ H Q I q => h.run pins s σ H Q I (i σ H Q q)⟩
section
variable {X : Cx} {cl : Str → Addr} {W : WX}
theorem dts_nil : PTs X [] (tG X.K cl W RB fYes) := PTs.imp pts_nil fun σ H Q ⟨w, ρ, S, o, n, p⟩ => p.here o rfl
theorem dts_one {c : Expr} {t : Env → Store → Res Bool} (h : DT X cl W c t) : PTs X [c] (tG X.K cl W RB t) := pts_one h
/-- within a block nothing is raised -/
theorem Post.in0 {K : PySem.W.Frag} {α β : Type} {Rl : Wd → β → α → Prop} {σ σ' : L2.St} {w : Wd} {H : Hp} {r : Res α} {k : α → Store → Res (List D)} {Q : β → Hp → Prop} {QL : VK} {w0 : Wd} {H0 : Hp} (e0 : Ext w0 H0 w H) (h : PostL K cl W σ w0 H0 ((noErr r).bind k) QL)
    (hk : ∀ d S1 w1 v H1, Ext w H w1 H1 → Ok K cl w1 S1 H1 → Rl w1 v d → PostL K cl W σ w0 H0 (k d S1) QL → Q v H1) : Post K cl W0 σ' Rl w H r Q := by
  cases r with
  | ok d S => exact fun w1 v H1 e1 o1 r1 => hk d S w1 v H1 e1 o1 r1 h
  | err c S => exact h.elim
  | bad => exact h
theorem tLc_of {tg iter : Expr} {own : List Nat} {ks : List Nat} {fi : Env → Store → Res (List D)} {t : Tgt} {ft : Env → Store → Res Bool} {fe : Env → Store → Res D} (hks : ∀ i ∈ ks, i ∈ own) {σ : L2.St} {H : Hp} {Q : VK} (h : tL X.K cl W (fComp fi t ft fe own) σ H Q) :
    tLc (tI X.K cl W fi) (gE X.K cl ks t) (tG X.K cl W0 RB ft) (tG X.K cl W0 (R X.K) fe) own σ H Q := by
  obtain ⟨w, ρ, S, o, n, p⟩ := h
  refine ⟨w, ρ, S, o, n, ?_⟩
  unfold fComp at p
  cases hf : fi ρ S with
  | bad => rw [hf] at p; exact p
  | err c S1 => rw [hf] at p; exact p
  | ok ds S1 =>
    rw [hf] at p
    have p : PostL X.K cl W σ w H (compL t ft fe (wipeE ρ own) ds S1 []) Q := p
    intro w1 H1 J e1 o1 wk Dd hDd
    have hid1 := o1.hid hDd
    refine ⟨fun i m H' => ∃ w' S' acc vs', Ext w1 H1 w' H' ∧ Ok X.K cl w' S' H' ∧ Hid w' Dd ∧ H' Dd = some (.lst vs') ∧ RA X.K w' vs' acc ∧ m = ds.length - i ∧ i ≤ ds.length ∧ PostL X.K cl W σ w H (compL t ft fe (wipeE ρ own) (ds.drop i) S' acc) Q,
      ⟨ds.length, w1, S1, [], [], (Ext.refl w1 H1).mut hDd, o1.mut hid1, hid1, upd_same, .nil, rfl, Nat.zero_le _, p⟩, ?_⟩
    rintro i m H' ⟨w', S', acc, vs', x', o', hid', hD', ra', rfl, hle, p'⟩
    obtain ⟨hgo, hstop⟩ := wk i w' S' H' x'.le o'
    by_cases hi : i < ds.length
    · have hd : ds[i]? = some ds[i] := by simp [hi]
      rw [List.drop_eq_getElem_cons hi] at p'
      simp only [compL] at p'
      obtain ⟨go, yld⟩ := hgo _ hd
      refine .inr ⟨go, fun H2 => ∃ w2 S2 acc2 vs2, Ext w1 H1 w2 H2 ∧ Ok X.K cl w2 S2 H2 ∧ Hid w2 Dd ∧ H2 Dd = some (.lst vs2) ∧ RA X.K w2 vs2 acc2 ∧ PostL X.K cl W σ w H (compL t ft fe (wipeE ρ own) (ds.drop (i + 1)) S2 acc2) Q,
        fun H2 ⟨w2, S2, acc2, vs2, a1, a2, a3, a4, a5, a6⟩ => ⟨ds.length - (i + 1), by omega, w2, S2, acc2, vs2, a1, a2, a3, a4, a5, rfl, hi, a6⟩, fun x H2 y => ?_⟩
      obtain ⟨w2, e2, o2, r2⟩ := yld x H2 y
      have en2 : EnvR X.K w2 H2 (wipe σ own) (wipeE ρ own) := (((n.mono e1).mono x').mono e2).wipe own
      have x2 := x'.trans e2
      cases ht : t ds[i] (wipeE ρ own) with
      | none => rw [ht] at p'; exact p'.elim
      | some ρ1 =>
        rw [ht] at p'
        refine ⟨w2, wipeE ρ own, S', ds[i], ρ1, o2, en2, r2, ht, fun σ3 n3 l3 k3 => ⟨wipe_same (l3.trans (wipe_length _ _)) fun j hj => k3 j fun z => hj (hks j z), tG.at o2 n3 ?_⟩⟩
        have p' : PostL X.K cl W σ w H ((noErr (ft ρ1 S')).bind fun b S1 => if b = true then (noErr (fe ρ1 S1)).bind fun y S2 => if acc.length < LIM then compL t ft fe (wipeE ρ own) (ds.drop (i + 1)) S2 (acc ++ [y]) else .bad else compL t ft fe (wipeE ρ own) (ds.drop (i + 1)) S1 acc) Q := p'
        refine Post.in0 (e1.trans x2) p' fun b S3 w3 b' H3 e3 o3 rb p3 => ?_
        cases (show b' = b from rb)
        have x3 := x2.trans e3
        have hid2 := hid'.mono e2 hD'
        have hD2 := e2.keep Dd _ hD' hid'.nK
        have hid3 := hid2.mono e3 hD2
        have hD3 := e3.keep Dd _ hD2 hid2.nK
        cases b with
        | false =>
          rw [if_neg Bool.false_ne_true] at p3 ⊢
          exact ⟨w3, S3, acc, vs', x3, o3, hid3, hD3, (ra'.mono e2.le).mono e3.le, p3⟩
        | true =>
          rw [if_pos rfl] at p3 ⊢
          refine tG.at o3 (n3.mono e3) (Post.in0 (e1.trans x3) p3 fun y S4 w4 yv H4 e4 o4 ry p4 => ?_)
          split at p4
          · rename_i hl
            have hid4 := hid3.mono e4 hD3
            have hD4 := e4.keep Dd _ hD3 hid3.nK
            have ra4 := ((ra'.mono e2.le).mono e3.le).mono e4.le
            exact ⟨vs', hD4, lim_lt (by rw [ra'.length]; exact hl), w4, S4, acc ++ [y], vs' ++ [yv], (x3.trans e4).mut hDd, o4.mut hid4, hid4, upd_same, ra4.append (.one ry), p4⟩
          · exact p4.elim
    · refine .inl ⟨hstop (by omega), ?_⟩
      rw [List.drop_eq_nil_of_le (Nat.le_of_not_lt hi)] at p'
      exact p' w' Dd vs' H' (e1.trans x') o' (e1.back hDd) hD' hid' ra'
theorem dl_comp {elt tg iter : Expr} {ifs : List Expr} {scope : Scope} {own : List (Str × Nat)} {ks : List Nat} {pos : Pos} {fi : Env → Store → Res (List D)} {t : Tgt} {ft : Env → Store → Res Bool} {fe : Env → Store → Res D} (hc : X.calm = true) (hN : X.N.Nodup) (hi : DI X cl W tg iter fi) (ok : BlkOk X.N X.env.scope scope own)
    (hg : ∀ (s : Shared) (H : Hp) (C : Addr) (cs : List (Str × Addr)) (fp : List Addr), PG (X.blk s H scope (compEnvC scope cs C X.env) fp) tg (gE X.K cl (own.map (·.2)) t))
    (ht : ∀ (s : Shared) (H : Hp) (C : Addr) (cs : List (Str × Addr)) (fp : List Addr), PTs (X.blk s H scope (compEnvC scope cs C X.env) fp) ifs (tG X.K cl W0 RB ft))
    (he : ∀ (s : Shared) (H : Hp) (C : Addr) (cs : List (Str × Addr)) (fp : List Addr), PE (X.blk s H scope (compEnvC scope cs C X.env) fp) elt (tG X.K cl W0 (R X.K) fe)) (hs : ∀ x, foldedSetIterable iter X.env x = pure x := by intro _; rfl) (hks : own.map (·.2) = ks := by rfl) :
    DL X cl W (.ListComp elt [⟨tg, iter, ifs, 0⟩] scope pos) (fComp fi t ft fe ks) := by
  subst hks
  exact PE.imp (pe_lc hc hN hi ok hg ht he hs) fun σ H Q h => tLc_of (tg := tg) (iter := iter) (fun _ z => z) h
theorem ds_setLc {e : Pt} {i : Nat} {y : Str} {py : Pos} {elt tg iter : Expr} {ifs : List Expr} {scope : Scope} {own : List (Str × Nat)} {ks : List Nat} {pos spos : Pos} {fi : Env → Store → Res (List D)} {t : Tgt} {ft : Env → Store → Res Bool} {fe : Env → Store → Res D} (hc : X.calm = true) (hN : X.N.Nodup) (hy : X.N[i]? = some y) (hyl : X.env.scope.names.lookup y = some .local)
    (hsw : swapsWith (.ListComp elt [⟨tg, iter, ifs, 0⟩] scope pos) (some (.Name y py)) spos.line X.env = pure true) (hi : DI X cl W tg iter fi) (ok : BlkOk X.N X.env.scope scope own)
    (hg : ∀ (s : Shared) (H : Hp) (C : Addr) (cs : List (Str × Addr)) (fp : List Addr), PG (X.blk s H scope (compEnvC scope cs C X.env) fp) tg (gE X.K cl (own.map (·.2)) t))
    (ht : ∀ (s : Shared) (H : Hp) (C : Addr) (cs : List (Str × Addr)) (fp : List Addr), PTs (X.blk s H scope (compEnvC scope cs C X.env) fp) ifs (tG X.K cl W0 RB ft))
    (he : ∀ (s : Shared) (H : Hp) (C : Addr) (cs : List (Str × Addr)) (fp : List Addr), PE (X.blk s H scope (compEnvC scope cs C X.env) fp) elt (tG X.K cl W0 (R X.K) fe)) (hs : ∀ x, foldedSetIterable iter X.env x = pure x := by intro _; rfl) (hks : own.map (·.2) = ks := by rfl) :
    DS X cl e W (.Assign [.Name y py] (.ListComp elt [⟨tg, iter, ifs, 0⟩] scope pos) spos) (sSet i (fFrz (fComp fi t ft fe ks))) := by
  subst hks
  exact PS.imp (ps_setLc hc hN hy hyl hsw hi ok hg ht he hs) fun Z σ H ⟨w, ρ, S, fs, p⟩ => tLc_of (tg := tg) (iter := iter) (fun _ z => z) ⟨w, ρ, S, fs.ok, fs.env, postL_frz (PostS.expr p fs fun d S1 w1 v H1 _ f1 r1 p1 => p1 w1 _ H1 (Le.refl _) (f1.set r1))⟩
end

/-! ### own lists -/
section
variable {X : Cx} {cl : Str → Addr} {e : Pt} {W : WX} {pos : Pos}
theorem dl_lst {es : List Expr} {g : Env → Store → Res (List D)} (h : DA X cl W es g) : DL X cl W (.List es pos) (fun ρ S => (g ρ S).bind fun ds S1 => if ds.length ≤ LIM then .ok ds S1 else .bad) := by
  refine PE.imp (pe_lst h) fun σ H Q ⟨w, ρ, S, o, n, p⟩ => tG.at o n ?_
  cases hg : g ρ S with
  | bad => simp only [hg, Res.bind] at p; exact p
  | err c S1 => simp only [hg, Res.bind] at p; exact p
  | ok ds S1 =>
    simp only [hg, Res.bind] at p
    intro w1 vs H1 e1 o1 r1
    split at p
    · rename_i hl
      exact ⟨lim_le (by rw [r1.length]; exact hl), fun q hq => p w1 q vs _ (e1.mut (e1.back hq)) (o1.mut (o1.hid hq)) (e1.back hq) upd_same (o1.hid hq) r1⟩
    · exact p.elim
def sSetOwn (i : Nat) (f : Env → Store → Res (List D)) : Stm := fun ρ S => Out.of (f ρ S) ρ fun l S1 => .next (ρ.set i (some (.own l))) S1
theorem ds_setOwn {i : Nat} {x : Str} {ex : Expr} {pos' : Pos} {f : Env → Store → Res (List D)} (hN : X.N.Nodup) (hi : X.N[i]? = some x) (hx : Loc X.env.scope x) (h : DL X cl W ex f) (hs : swapsWith ex (some (.Name x pos')) pos.line X.env = pure false := by rfl)
    (hf : X.fn x = true ∨ X.env.scope.names.lookup x = some .local := by first | exact .inl rfl | exact .inr rfl | assumption) : DS X cl e W (.Assign [.Name x pos'] ex pos) (sSetOwn i f) := by
  refine PS.imp (ps_set hN hi hx h hs hf) fun Z σ H ⟨w, ρ, S, fs, p⟩ => ⟨w, ρ, S, fs.ok, fs.env, ?_⟩
  unfold sSetOwn at p
  cases hf : f ρ S with
  | bad => simp only [hf, Out.of] at p; exact p
  | err c S1 => simp only [hf, Out.of] at p; exact fun w' H' x o => p w' σ H' x.le (fs.on x o)
  | ok l S1 =>
    simp only [hf, Out.of] at p
    intro w1 a vs H1 e1 o1 ha h1 hid ra
    refine p w1 _ H1 e1.le ((fs.on e1 o1).setOwn rfl ⟨a, vs, rfl, h1, ra, hid⟩ (fs.ext.back ha) fun j t hj ht hji hv => ?_)
    obtain ⟨v, hv', so⟩ := fs.env.slot j t hj
    rw [hv] at hv'
    cases hv'
    cases t with
    | dat d => cases ht
    | adr a => cases ht
    | own l2 => obtain ⟨b, us, eb, hb, _⟩ := so; cases eb; rw [ha] at hb; cases hb
    | ownd l2 => obtain ⟨b, us, eb, hb, _⟩ := so; cases eb; rw [ha] at hb; cases hb
/-- what is own is changed -/
theorem Fs.mutOwn {K : PySem.W.Frag} {σ : L2.St} {H : Hp} {w : Wd} {ρ : Env} {S : Store} {i : Nat} {a : Addr} {s s' : Slot} {o : HO} (f : Fs K cl e σ H w ρ S) (hs : ρ[i]? = some (some s)) (so : s.isOwn = true) (hi : σ[i]? = some (some (.ref a))) (hid : Hid w a) (so' : s'.isOwn = true) (ok' : SlotOk K w (upd H a o) s' (.ref a)) :
    Fs K cl e σ (upd H a o) w (ρ.set i (some s')) S := by
  have il : i < ρ.length := (List.getElem?_eq_some_iff.mp hs).1
  have hfr : e.H a = none := f.fr i s a hs so hi
  refine ⟨f.ext.mut hfr, f.ok.mut hid, ⟨by simp [f.env.len], fun j t ht => ?_, fun j l t t' u hjl hj hl os ot hvj hvl => ?_⟩, fun j t b hj os hv => ?_⟩
  · by_cases ej : j = i
    · subst ej
      rw [List.getElem?_set_self il] at ht
      cases ht
      exact ⟨_, hi, ok'⟩
    · rw [List.getElem?_set_ne (Ne.symm ej)] at ht
      obtain ⟨v, hv, sv⟩ := f.env.slot j t ht
      refine ⟨v, hv, ?_⟩
      cases t with
      | dat d => exact sv
      | adr a => exact sv
      | own l =>
        obtain ⟨b, us, rfl, hb, rb, hb2⟩ := sv
        have ne : b ≠ a := fun z => by subst z; exact f.env.sep j i _ _ _ ej ht hs rfl so hv hi
        exact ⟨b, us, rfl, by rw [upd_ne ne]; exact hb, rb, hb2⟩
      | ownd l =>
        obtain ⟨b, us, rfl, hb, rb, hb2⟩ := sv
        have ne : b ≠ a := fun z => by subst z; exact f.env.sep j i _ _ _ ej ht hs rfl so hv hi
        exact ⟨b, us, rfl, by rw [upd_ne ne]; exact hb, rb, hb2⟩
  · have old : ∀ {m : Nat} {t : Slot}, (ρ.set i (some s'))[m]? = some (some t) → t.isOwn = true → ∃ t0, ρ[m]? = some (some t0) ∧ t0.isOwn = true := fun {m t} hm ot => by
      by_cases em : m = i
      · subst em; exact ⟨s, hs, so⟩
      · rw [List.getElem?_set_ne (Ne.symm em)] at hm; exact ⟨t, hm, ot⟩
    obtain ⟨t0, h0, o0⟩ := old hj os
    obtain ⟨t1, h1, o1⟩ := old hl ot
    exact f.env.sep j l t0 t1 u hjl h0 h1 o0 o1 hvj hvl
  · by_cases ej : j = i
    · subst ej
      rw [hi] at hv; cases hv
      exact hfr
    · rw [List.getElem?_set_ne (Ne.symm ej)] at hj
      exact f.fr j t b hj os hv
/-- x.append(e), x own -/
def sAppend (i : Nat) (f : Env → Store → Res (List D)) : Stm := fun ρ S => match ρ[i]? with
  | some (some (.own l)) => Out.of (f ρ S) ρ fun ds S1 => match ds with
    | [d] => if l.length < LIM then .next (ρ.set i (some (.own (l ++ [d])))) S1 else .bad
    | _ => .bad
  | _ => .bad
theorem ds_append {i : Nat} {x : Str} {p apos cpos : Pos} {ex : Expr} {f : Env → Store → Res (List D)} (hv : PE X (.Name x p) (tVar i)) (h : DA X cl W [ex] f)
    (hbase : attributeBase (.Name x p) "append" X.env (eval (.Name x p) X.env) = eval (.Name x p) X.env := by rfl)
    (hfew : ((backTo cpos (starEach [ex] X.env)).all (fun x => !x.1) && (backToKw cpos (keywordEach [] X.env)).all (fun x => x.1.isSome)
      && decide (([ex] : List Expr).length + ([] : List Keyword).length + (if ([] : List Keyword).isEmpty then 0 else 1) < 30)) = true := by rfl)
    (hline : (apos.endLine == cpos.line) = true := by rfl) (hs : starEach [ex] X.env = (false, eval ex X.env) :: starEach [] X.env := by rfl) (hplain : (backTo cpos (starEach [] X.env)).any (·.1) = false := by rfl)
    (hsw : swapsWith (.Call (.Attribute (.Name x p) "append" apos) [ex] [] cpos) none pos.line X.env = pure false := by rfl) :
    DS X cl e W (.Expr (.Call (.Attribute (.Name x p) "append" apos) [ex] [] cpos) pos) (sAppend i f) := by
  refine PS.imp (ps_expr (pe_bm PySem.F.plainAttrs_list PySem.F.slot_list_append PySem.F.type_list_append mt_append hv h hbase hfew hline hs hplain) hsw) fun Z σ H ⟨w, ρ, S, fs, q⟩ => ?_
  unfold sAppend at q
  split at q
  · rename_i l hl
    obtain ⟨v, hv, a, vs, rfl, ha, ra, hid⟩ := fs.env.slot i _ hl
    refine ⟨_, hv, .inl ⟨rfl, vs, SqL.of ha⟩, fs.tG (PostS.expr q fs fun ds S1 w1 us H1 e1 f1 r1 p1 => ?_)⟩
    have ha1 := e1.keep a _ ha hid.nK
    have hid1 := hid.mono e1 ha
    split at p1
    · split at p1
      · rename_i d hlt
        obtain ⟨u, rfl, ru⟩ := ra1 r1
        refine ⟨a, vs, u, rfl, rfl, ha1, lim_lt (by rw [ra.length]; exact hlt), p1 w1 σ _ (Le.refl _) (f1.mutOwn hl rfl hv hid1 rfl ⟨a, _, rfl, upd_same, (ra.mono e1.le).append (.one ru), hid1⟩)⟩
      · exact p1.elim
    · exact p1.elim
  · exact q.elim
/-- an own list becomes data (no step of the program) -/
def sFreeze (i : Nat) (g : Stm) : Stm := fun ρ S => match ρ[i]? with
  | some (some (.own l)) => g (ρ.set i (some (.dat (.lst l)))) S
  | some (some (.ownd l)) => g (ρ.set i (some (.dat (.dic l)))) S
  | _ => .bad
theorem Fs.freeze {K : PySem.W.Frag} {σ : L2.St} {H : Hp} {w : Wd} {ρ : Env} {S : Store} {i : Nat} {a : Addr} {s : Slot} {o : HO} {d : D} (f : Fs K cl e σ H w ρ S) (hs : ρ[i]? = some (some s)) (so : s.isOwn = true) (hi : σ[i]? = some (some (.ref a))) (hid : Hid w a) (ha : H a = some o) (hr : R K (w.lay a o) (.ref a) d) :
    Fs K cl e σ H (w.lay a o) (ρ.set i (some (.dat d))) S := by
  have il : i < ρ.length := (List.getElem?_eq_some_iff.mp hs).1
  have hfr : e.H a = none := f.fr i s a hs so hi
  have le := Le.lay (o := o) hid.nF
  refine ⟨f.ext.freeze hid.nF hfr, f.ok.freeze hid ha, ⟨by simp [f.env.len], fun j t ht => ?_, fun j l t t' u hjl hj hl os ot hvj hvl => ?_⟩, fun j t b hj os hv => ?_⟩
  · by_cases ej : j = i
    · subst ej
      rw [List.getElem?_set_self il] at ht
      cases ht
      exact ⟨_, hi, hr⟩
    · rw [List.getElem?_set_ne (Ne.symm ej)] at ht
      obtain ⟨v, hv, sv⟩ := f.env.slot j t ht
      refine ⟨v, hv, ?_⟩
      have hidn : ∀ {b : Addr}, b ≠ a → Hid w b → Hid (w.lay a o) b := fun {b} nb hb => ⟨by show upd w.F a o b = none; rw [upd_ne nb]; exact hb.nF, hb.nK⟩
      cases t with
      | dat d => exact R.mono le sv
      | adr a => exact sv
      | own l =>
        obtain ⟨b, us, rfl, hb, rb, hb2⟩ := sv
        have ne : b ≠ a := fun z => by subst z; exact f.env.sep j i _ _ _ ej ht hs rfl so hv hi
        exact ⟨b, us, rfl, hb, rb.mono le, hidn ne hb2⟩
      | ownd l =>
        obtain ⟨b, us, rfl, hb, rb, hb2⟩ := sv
        have ne : b ≠ a := fun z => by subst z; exact f.env.sep j i _ _ _ ej ht hs rfl so hv hi
        exact ⟨b, us, rfl, hb, rb.mono le, hidn ne hb2⟩
  · have old : ∀ {m : Nat} {t : Slot}, (ρ.set i (some (.dat d)))[m]? = some (some t) → t.isOwn = true → ρ[m]? = some (some t) := fun {m t} hm ot => by
      by_cases em : m = i
      · subst em; rw [List.getElem?_set_self il] at hm; cases hm; cases ot
      · rw [List.getElem?_set_ne (Ne.symm em)] at hm; exact hm
    exact f.env.sep j l t t' u hjl (old hj os) (old hl ot) os ot hvj hvl
  · by_cases ej : j = i
    · subst ej
      rw [List.getElem?_set_self il] at hj; cases hj; cases os
    · rw [List.getElem?_set_ne (Ne.symm ej)] at hj
      exact f.fr j t b hj os hv
/-- .. with another thing in its place (a dict that is locked for good) -/
theorem Fs.freezeD {K : PySem.W.Frag} {σ : L2.St} {H : Hp} {w : Wd} {ρ : Env} {S : Store} {i : Nat} {a : Addr} {s : Slot} {o : HO} {d : D} (f : Fs K cl e σ H w ρ S) (hs : ρ[i]? = some (some s)) (so : s.isOwn = true) (hi : σ[i]? = some (some (.ref a))) (hid : Hid w a) (hr : R K (w.lay a o) (.ref a) d) :
    Fs K cl e σ (upd H a o) (w.lay a o) (ρ.set i (some (.dat d))) S := by
  have il : i < ρ.length := (List.getElem?_eq_some_iff.mp hs).1
  have hfr : e.H a = none := f.fr i s a hs so hi
  have le := Le.lay (o := o) hid.nF
  refine ⟨(f.ext.mut hfr).freeze hid.nF hfr, (f.ok.mut hid).freeze hid upd_same, ⟨by simp [f.env.len], fun j t ht => ?_, fun j l t t' u hjl hj hl os ot hvj hvl => ?_⟩, fun j t b hj os hv => ?_⟩
  · by_cases ej : j = i
    · subst ej
      rw [List.getElem?_set_self il] at ht
      cases ht
      exact ⟨_, hi, hr⟩
    · rw [List.getElem?_set_ne (Ne.symm ej)] at ht
      obtain ⟨v, hv, sv⟩ := f.env.slot j t ht
      refine ⟨v, hv, ?_⟩
      have hidn : ∀ {b : Addr}, b ≠ a → Hid w b → Hid (w.lay a o) b := fun {b} nb hb => ⟨by show upd w.F a o b = none; rw [upd_ne nb]; exact hb.nF, hb.nK⟩
      cases t with
      | dat d => exact R.mono le sv
      | adr a => exact sv
      | own l =>
        obtain ⟨b, us, rfl, hb, rb, hb2⟩ := sv
        have ne : b ≠ a := fun z => by subst z; exact f.env.sep j i _ _ _ ej ht hs rfl so hv hi
        exact ⟨b, us, rfl, by rw [upd_ne ne]; exact hb, rb.mono le, hidn ne hb2⟩
      | ownd l =>
        obtain ⟨b, us, rfl, hb, rb, hb2⟩ := sv
        have ne : b ≠ a := fun z => by subst z; exact f.env.sep j i _ _ _ ej ht hs rfl so hv hi
        exact ⟨b, us, rfl, by rw [upd_ne ne]; exact hb, rb.mono le, hidn ne hb2⟩
  · have old : ∀ {m : Nat} {t : Slot}, (ρ.set i (some (.dat d)))[m]? = some (some t) → t.isOwn = true → ρ[m]? = some (some t) := fun {m t} hm ot => by
      by_cases em : m = i
      · subst em; rw [List.getElem?_set_self il] at hm; cases hm; cases ot
      · rw [List.getElem?_set_ne (Ne.symm em)] at hm; exact hm
    exact f.env.sep j l t t' u hjl (old hj os) (old hl ot) os ot hvj hvl
  · by_cases ej : j = i
    · subst ej
      rw [List.getElem?_set_self il] at hj; cases hj; cases os
    · rw [List.getElem?_set_ne (Ne.symm ej)] at hj
      exact f.fr j t b hj os hv
/-- a thing is locked, for good -/
def tLk {α : Type} (t : α → L2.St → Hp → Prop) : α → L2.St → Hp → Prop := fun D σ H => t D σ H ∨ ∃ d u, H d = some u ∧ Mut (some u) ∧ ∀ od, t D σ (upd H d (.frz od u))
theorem PS.lk {st : Stmt} {t : TS} (h : PS X st t) : PS X st (tLk t) := ⟨fun pins s σ H D I hw => by
  rcases hw with hw | ⟨d, u, hd, mu, hw⟩
  · exact h.run pins s σ H D I hw
  · obtain ⟨od, I1⟩ := I.lock hd mu
    exact h.run pins s σ _ D I1 (hw od)⟩
theorem PSs.lk {st : List Stmt} {t : TS} (h : PSs X st t) : PSs X st (tLk t) := ⟨fun pins s σ H D I hw => by
  rcases hw with hw | ⟨d, u, hd, mu, hw⟩
  · exact h.run pins s σ H D I hw
  · obtain ⟨od, I1⟩ := I.lock hd mu
    exact h.run pins s σ _ D I1 (hw od)⟩
theorem tSt_freeze {K : PySem.W.Frag} {Z : Ends} {σ : L2.St} {H : Hp} {g : Stm} (i : Nat) (h : tSt K cl e W (sFreeze i g) Z σ H) : tLk (tSt K cl e W g) Z σ H := by
  obtain ⟨w, ρ, S, fs, p⟩ := h
  unfold sFreeze at p
  split at p
  · rename_i l hl
    obtain ⟨v, hv, a, vs, rfl, ha, ra, hid⟩ := fs.env.slot i _ hl
    exact .inl ⟨_, _, S, fs.freeze hl rfl hv hid ha (.lst upd_same (ra.mono (Le.lay hid.nF))), PostS.le (Le.lay hid.nF) p⟩
  · rename_i l hl
    obtain ⟨v, hv, a, vs, rfl, ha, ra, hid⟩ := fs.env.slot i _ hl
    exact .inr ⟨a, _, ha, trivial, fun od => ⟨_, _, S, fs.freezeD hl rfl hv hid (.dic upd_same (ra.mono (Le.lay hid.nF))), PostS.le (Le.lay hid.nF) p⟩⟩
  · exact p.elim
theorem ds_freeze {st : Stmt} {g : Stm} (i : Nat) (h : DS X cl e W st g) : DS X cl e W st (sFreeze i g) := PS.imp (PS.lk h) fun Z σ H q => tSt_freeze i q
theorem dss_freeze {st : List Stmt} {g : Stm} (i : Nat) (h : DSs X cl e W st g) : DSs X cl e W st (sFreeze i g) := PSs.imp (PSs.lk h) fun Z σ H q => tSt_freeze i q
end
end BW
namespace BW
open PySem PySem.Spec PyProof.Rows L2
/-! ### a def -/
def startE (n : Nat) (ds : List D) : Env := ds.map (fun d => some (.dat d)) ++ List.replicate (n - ds.length) none
def mOf (n : Nat) (g : Stm) : List D → Store → Res D := fun ds S => match g (startE n ds) S with
  | .next _ S' => .ok .non S'
  | .ret d S' => .ok d S'
  | .err c _ S' => .err c S'
  | _ => .bad
abbrev WOf (E : XK) : WX := fun c d _ H => E c d H
section
variable {P : Program} {w : World} {K : PySem.W.Frag} {mg : Str → Option Value} {base : Heap} {cl : Str → Addr}
theorem start_get {vs : List V} {ds : List D} {u : Wd} (r : RA K u vs ds) (N : List Str) (i : Nat) (s : Slot) (h : (startE N.length ds)[i]? = some (some s)) : ∃ v d, (L2.start N vs)[i]? = some (some v) ∧ s = .dat d ∧ R K u v d := by
  unfold startE at h
  unfold L2.start
  by_cases hi : i < ds.length
  · rw [List.getElem?_append_left (by simpa using hi), List.getElem?_map] at h
    have hd : ds[i]? = some ds[i] := by simp [hi]
    rw [hd] at h
    cases h
    obtain ⟨v, hv, rv⟩ := r.get hd
    refine ⟨v, ds[i], ?_, rfl, rv⟩
    rw [List.getElem?_append_left (by rw [List.length_map, r.length]; exact hi), List.getElem?_map, hv]
    rfl
  · rw [List.getElem?_append_right (by simpa using Nat.le_of_not_lt hi)] at h
    have := List.getElem?_eq_some_iff.mp h
    obtain ⟨h1, h2⟩ := this
    rw [List.getElem_replicate] at h2
    cases h2
def scp (ns : List (Str × NameKind)) (more : List (Str × Const)) : Scope := { kind := .function, names := ns, isGenerator := false, isCoroutine := false, more := more }
theorem Fun.fn {x qual : Str} {st : Stmt} {bd : List Stmt} {sc : Scope} {f : Addr} {fd : FuncData} {N ps : List Str} {k n : Nat} {g : Stm} (F : Fun K x qual st f fd) (hn : N.length = n) (hsc : defScope st = sc) (hbd : defBody st = bd) (Sc : FnScope N ps sc)
    (body : ∀ (cdv : Value) (A : Around) (outer : List PySem.Env) (s : Shared) (H : Hp) (E : XK) (e : Pt), Room k (A.deeper (envOfC qual sc s.heap.objs.size f cdv)) →
      DSs (cxOf (L2.CX P w) P w K mg base N qual sc f cdv A outer s H E) cl e (WOf E) bd g) : FnOk P w K mg base (L2.CX P w) (k + 1) f fd ps (spM K cl ps.length (mOf n g)) := by
  subst hsc hbd hn
  refine F.okX Sc (fun vs H Q E h => ?_) (fun cdv A outer s H vs Q E hr h => ?_)
  · obtain ⟨u, S, ds, _, r, hl, _⟩ := h
    rw [r.length, hl]
  · obtain ⟨u, S, ds, o, r, hl, p⟩ := h
    refine ⟨_, body cdv A outer s H E ⟨u, H⟩ hr, u, startE N.length ds, S, ⟨Ext.refl _ _, o, ⟨?_, fun i sl hs => ?_, fun i j sl t v _ hs _ os => ?_⟩, fun i sl a hs os => ?_⟩, ?_⟩
    · unfold L2.start startE
      simp [r.length]
    · obtain ⟨v, d, h1, rfl, rv⟩ := start_get r N i sl hs
      exact ⟨v, h1, rv⟩
    · obtain ⟨v, d, h1, rfl, rv⟩ := start_get r N i sl hs
      cases os
    · obtain ⟨v, d, h1, rfl, rv⟩ := start_get r N i sl hs
      cases os
    · unfold mOf at p
      cases hg : g (startE N.length ds) S with
      | next ρ S' => rw [hg] at p; exact fun w' σ' H' _ fs => p w' .non H' fs.ext fs.ok .non
      | ret d S' => rw [hg] at p; exact fun w' v H' _ x o' rv => p w' v H' x o' rv
      | err c ρ S' => rw [hg] at p; exact fun w' σ' H' _ fs => p w' H' fs.ext fs.ok
      | brk ρ S' => rw [hg] at p; exact p.elim
      | cont ρ S' => rw [hg] at p; exact p.elim
      | bad => rw [hg] at p; exact p.elim
end

/-! ### built-ins -/
section
variable {X : Cx} {cl : Str → Addr} {W : WX}
def gLen : List D → Store → Option D
  | [.lst l], _ => some (.int (l.length : Nat))
  | [.tup l], _ => some (.int (l.length : Nat))
  | [.str x], _ => if x.length ≤ LIM then some (.int (x.length : Nat)) else none
  | [.scr ns], _ => some (.int (ns.length : Nat))
  | [.dic kvs], _ => some (.int (kvs.length : Nat))
  | [.ref n], S => match S[n]? with
    | some (.lst l) => some (.int (l.length : Nat))
    | some (.dic l) => some (.int (l.length : Nat))
    | _ => none
  | _, _ => none
theorem call_lenR : CallR X (.builtin "len") (fun xs H Q => ∃ a kvs, xs = [V.ref a] ∧ Rd H a (.dK kvs) ∧ Q (.int (kvs.length : Nat)) H) := by
  intro pins s σ H xs us Q I r h
  obtain ⟨a, kvs, rfl, ha, q⟩ := h
  obtain ⟨u, rfl, ru⟩ := vals1 r
  cases ru
  exact d_len I ha fun t s' I' => ⟨.int _, H, I', ⟨t, rfl⟩, q⟩
theorem c_len : CallR X (.builtin "len") (rN X.K cl gLen) := by
  refine ofN (CallR.or call_len call_lenR) fun xs H Q w S ds z k r hg q => ?_
  unfold gLen at hg
  split at hg
  · cases hg
    obtain ⟨v, rfl, rv⟩ := ra1 r
    obtain ⟨a, vs, rfl, ha, ra⟩ := rv.lst_inv
    refine .inl ⟨.ref a, vs.length, rfl, .inl ⟨vs, k.sqL ha, rfl⟩, ?_⟩
    rw [ra.length]
    exact q w _ H (Ext.refl _ _) k (.int _)
  · cases hg
    obtain ⟨v, rfl, rv⟩ := ra1 r
    obtain ⟨a, vs, rfl, ha, ra⟩ := rv.tup_inv
    refine .inl ⟨.ref a, vs.length, rfl, .inr ⟨vs, k.sqT ha, rfl⟩, ?_⟩
    rw [ra.length]
    exact q w _ H (Ext.refl _ _) k (.int _)
  · split at hg
    · rename_i hl
      cases hg
      obtain ⟨v, rfl, rv⟩ := ra1 r
      cases rv
      exact .inl ⟨_, _, rfl, ⟨lim_le hl, rfl⟩, q w _ H (Ext.refl _ _) k (.int _)⟩
    · cases hg
  · cases hg
    obtain ⟨v, rfl, rv⟩ := ra1 r
    obtain ⟨a, rfl, ha⟩ := rv.scr_inv
    rename_i ns
    refine .inl ⟨.ref a, ns.length, rfl, .inl ⟨_, k.sub.seq ha, by simp⟩, q w _ H (Ext.refl _ _) k (.int _)⟩
  · cases hg
    obtain ⟨v, rfl, rv⟩ := ra1 r
    obtain ⟨a, vs, rfl, ha, ra⟩ := rv.dic_inv
    refine .inr ⟨a, vs, rfl, Rd.mono k.sub ha, ?_⟩
    rw [ra.length]
    exact q w _ H (Ext.refl _ _) k (.int _)
  · obtain ⟨v, rfl, rv⟩ := ra1 r
    obtain ⟨rfl, hn⟩ := rv.ref_inv
    split at hg
    · rename_i l hc
      cases hg
      obtain ⟨_, vs, ha, ra⟩ := k.cell _ _ hc
      refine .inl ⟨_, vs.length, rfl, .inl ⟨vs, SqL.of ha, rfl⟩, ?_⟩
      rw [ra.length]
      exact q w _ H (Ext.refl _ _) k (.int _)
    · rename_i l hc
      cases hg
      obtain ⟨_, vs, ha, ra⟩ := k.cell _ _ hc
      refine .inr ⟨_, vs, rfl, .inl ha, ?_⟩
      rw [ra.length]
      exact q w _ H (Ext.refl _ _) k (.int _)
    · cases hg
  · cases hg
/-- len(x), x own -/
def fLenOwn (i : Nat) : Env → Store → Res D := fun ρ S => match ρ[i]? with
  | some (some (.own l)) => .ok (.int (l.length : Nat)) S
  | _ => .bad
theorem de_lenOwn {i : Nat} {x : Str} {p p2 pos : Pos} (hv : PE X (.Name x p2) (tVar i)) (hg : Gl X "len") (hm : X.mg "len" = none)
    (he : starEach [Expr.Name x p2] X.env = (false, eval (.Name x p2) X.env) :: starEach [] X.env := by rfl) (hpl : (backTo pos (starEach [] X.env)).any (·.1) = false := by rfl) : DE X cl W (.Call (.Name "len" p) [.Name x p2] [] pos) (fLenOwn i) := by
  refine PE.imp (pe_callB call_len hg hm PySem.boot_len (pa_cons hv pa_nil he) (he := he) (hpl := hpl)) fun σ H Q ⟨w, ρ, S, o, n, q⟩ => ?_
  unfold fLenOwn at q
  split at q
  · rename_i l hl
    obtain ⟨v, hv, a, vs, rfl, ha, ra, hid⟩ := n.slot i _ hl
    refine ⟨_, hv, .ref a, vs.length, rfl, .inl ⟨vs, SqL.of ha, rfl⟩, ?_⟩
    rw [ra.length]
    exact q.here o (.int _)
  · exact q.elim
/-- all -/
def bools? : List D → Option (List Bool)
  | [] => some []
  | .bl b :: l => (bools? l).map (b :: ·)
  | _ :: _ => none
theorem bools_ra {K : PySem.W.Frag} {w : Wd} : ∀ {l : List D} {vs : List V} {ns : List Bool}, RA K w vs l → bools? l = some ns → vs = ns.map V.bl
  | [], _, _, .nil, e => by cases e; rfl
  | .bl i :: l, _, ns, .cons r t, e => by
    simp only [bools?, Option.map_eq_some_iff] at e
    obtain ⟨ms, e1, rfl⟩ := e
    cases r
    rw [bools_ra t e1]
    rfl
def gAll : List D → Store → Option D
  | [.lst l], _ => (bools? l).map fun bs => .bl (bs.all id)
  | _, _ => none
theorem c_all (hc : X.calm = true) : CallR X (.builtin "all") (rN X.K cl gAll) := by
  refine ofN (cr_all hc) fun xs H Q w S ds z k r hg q => ?_
  unfold gAll at hg
  split at hg
  · rename_i l
    cases hb : bools? l with
    | none => rw [hb] at hg; cases hg
    | some bs =>
      rw [hb] at hg; cases hg
      obtain ⟨v, rfl, rv⟩ := ra1 r
      obtain ⟨a, vs, rfl, ha, ra⟩ := rv.lst_inv
      have e := bools_ra ra hb
      subst e
      exact ⟨a, bs, rfl, k.sqL ha, q w _ H (Ext.refl _ _) k (.bl _)⟩
  · cases hg
/-- min, max of two -/
def gMin : List D → Store → Option D
  | [.int i, .int j], _ => some (.int (if j < i then j else i))
  | _, _ => none
def gMax : List D → Store → Option D
  | [.int i, .int j], _ => some (.int (if j > i then j else i))
  | _, _ => none
theorem c_min (hc : X.calm = true) : CallR X (.builtin "min") (rN X.K cl gMin) := by
  refine ofN (call_min2 hc) fun xs H Q w S ds z k r hg q => ?_
  unfold gMin at hg
  split at hg
  · cases hg
    obtain ⟨v, u, rfl, rv, ru⟩ := ra2 r
    cases rv; cases ru
    exact ⟨_, _, rfl, q w _ H (Ext.refl _ _) k (.int _)⟩
  · cases hg
theorem c_max (hc : X.calm = true) : CallR X (.builtin "max") (rN X.K cl gMax) := by
  refine ofN (call_max2 hc) fun xs H Q w S ds z k r hg q => ?_
  unfold gMax at hg
  split at hg
  · cases hg
    obtain ⟨v, u, rfl, rv, ru⟩ := ra2 r
    cases rv; cases ru
    exact ⟨_, _, rfl, q w _ H (Ext.refl _ _) k (.int _)⟩
  · cases hg
/-- tuple(x), list(x) -/
def gTuple : List D → Store → Option D
  | [.lst l], _ => some (.tup l)
  | [.tup l], _ => some (.tup l)
  | _, _ => none
theorem c_tuple : CallR X (.type "tuple") (rN X.K cl gTuple) := by
  refine ofN call_tuple_of fun xs H Q w S ds z k r hg q => ?_
  unfold gTuple at hg
  split at hg
  · cases hg
    obtain ⟨v, rfl, rv⟩ := ra1 r
    obtain ⟨a, vs, rfl, ha, ra⟩ := rv.lst_inv
    exact ⟨a, vs, rfl, .inl ⟨k.sqL ha, fun l hl => let ⟨e, o, rr⟩ := k.layT hl ra; q _ _ _ e o rr⟩⟩
  · cases hg
    obtain ⟨v, rfl, rv⟩ := ra1 r
    obtain ⟨a, vs, rfl, ha, ra⟩ := rv.tup_inv
    exact ⟨a, vs, rfl, .inr ⟨k.sqT ha, q w _ H (Ext.refl _ _) k rv⟩⟩
  · cases hg
def gList : List D → Store → Option D
  | [.lst l], _ => some (.lst l)
  | [.tup l], _ => some (.lst l)
  | _, _ => none
theorem c_list : CallR X (.type "list") (rN X.K cl gList) := by
  refine ofN call_list_of fun xs H Q w S ds z k r hg q => ?_
  unfold gList at hg
  split at hg
  · cases hg
    obtain ⟨v, rfl, rv⟩ := ra1 r
    obtain ⟨a, vs, rfl, ha, ra⟩ := rv.lst_inv
    exact ⟨a, vs, rfl, .inl (k.sqL ha), fun l hl => let ⟨e, o, rr⟩ := k.layL hl ra; q _ _ _ e o rr⟩
  · cases hg
    obtain ⟨v, rfl, rv⟩ := ra1 r
    obtain ⟨a, vs, rfl, ha, ra⟩ := rv.tup_inv
    exact ⟨a, vs, rfl, .inr (k.sqT ha), fun l hl => let ⟨e, o, rr⟩ := k.layL hl ra; q _ _ _ e o rr⟩
  · cases hg
/-- sorted of ints -/
def insI (x : Int) : List Int → List Int
  | [] => [x]
  | y :: l => if x ≤ y then x :: y :: l else y :: insI x l
def isort : List Int → List Int
  | [] => []
  | x :: l => insI x (isort l)
theorem insI_perm (x : Int) : ∀ l, (insI x l).Perm (x :: l)
  | [] => .refl _
  | y :: l => by
    unfold insI
    split
    · exact .refl _
    · exact ((insI_perm x l).cons y).trans (.swap x y l)
theorem isort_perm : ∀ l, (isort l).Perm l
  | [] => .refl _
  | x :: l => (insI_perm x (isort l)).trans ((isort_perm l).cons x)
theorem insI_le (x : Int) : ∀ l : List Int, l.Pairwise (· ≤ ·) → (insI x l).Pairwise (· ≤ ·)
  | [], _ => by simp [insI]
  | y :: l, h => by
    unfold insI
    obtain ⟨h1, h2⟩ := List.pairwise_cons.mp h
    split
    · rename_i hx
      exact List.pairwise_cons.mpr ⟨fun z hz => by
        rcases List.mem_cons.mp hz with e | e
        · rw [e]; exact hx
        · exact Int.le_trans hx (h1 z e), h⟩
    · rename_i hx
      refine List.pairwise_cons.mpr ⟨fun z hz => ?_, insI_le x l h2⟩
      rcases List.mem_cons.mp ((insI_perm x l).mem_iff.mp hz) with e | e
      · rw [e]; omega
      · exact h1 z e
theorem isort_le : ∀ l : List Int, (isort l).Pairwise (· ≤ ·)
  | [] => .nil
  | x :: l => insI_le x _ (isort_le l)
theorem perm_le_eq : ∀ {a b : List Int}, a.Perm b → a.Pairwise (· ≤ ·) → b.Pairwise (· ≤ ·) → a = b
  | [], b, p, _, _ => by rw [List.nil_perm.mp p]
  | x :: a, [], p, _, _ => by have := p.length_eq; simp at this
  | x :: a, y :: b, p, ha, hb => by
    obtain ⟨a1, a2⟩ := List.pairwise_cons.mp ha
    obtain ⟨b1, b2⟩ := List.pairwise_cons.mp hb
    have hx : x ∈ y :: b := p.mem_iff.mp List.mem_cons_self
    have hy : y ∈ x :: a := p.mem_iff.mpr List.mem_cons_self
    have e : x = y := by
      rcases List.mem_cons.mp hx with e | e
      · exact e
      · rcases List.mem_cons.mp hy with f | f
        · exact f.symm
        · have := b1 x e
          have := a1 y f
          omega
    subst e
    rw [perm_le_eq ((List.perm_cons x).mp p) a2 b2]
def gSorted : List D → Store → Option D
  | [.lst l], _ => (ints? l).map fun ns => .lst ((isort ns).map .int)
  | _, _ => none
theorem ra_ints {K : PySem.W.Frag} {w : Wd} : ∀ ns : List Int, RA K w (ns.map V.int) (ns.map D.int)
  | [] => .nil
  | n :: ns => .cons (.int n) (ra_ints ns)
theorem c_sorted : CallR X (.builtin "sorted") (rN X.K cl gSorted) := by
  refine ofN cr_sortedI fun xs H Q w S ds z k r hg q => ?_
  unfold gSorted at hg
  split at hg
  · rename_i l
    cases hb : ints? l with
    | none => rw [hb] at hg; cases hg
    | some ns =>
      rw [hb] at hg; cases hg
      obtain ⟨v, rfl, rv⟩ := ra1 r
      obtain ⟨a, vs, rfl, ha, ra⟩ := rv.lst_inv
      have e := ints_ra ra hb
      subst e
      refine ⟨a, ns, rfl, k.sqL ha, fun ns' p perm ris hp => ?_⟩
      have e : ns' = isort ns := perm_le_eq (perm.trans (isort_perm ns).symm) ris (isort_le ns)
      subst e
      obtain ⟨e, o, rr⟩ := k.layL hp (ra_ints (isort ns))
      exact q _ _ _ e o rr
  · cases hg

/-! ### isinstance -/
def tyN : D → Option String
  | .non => some "NoneType"
  | .bl _ => some "bool"
  | .int _ => some "int"
  | .str _ => some "str"
  | .tup _ => some "tuple"
  | .lst _ => some "list"
  | _ => none
theorem R.tyX {K : PySem.W.Frag} {w : Wd} {S : Store} {H : Hp} {v : V} {d : D} {t : String} (k : Ok K cl w S H) (r : R K w v d) (h : tyN d = some t) : TyX K H v (.type t) := by
  cases r <;> simp only [tyN] at h <;> cases h
  · exact .base .non
  · exact .base (.bl _)
  · exact .base (.int _)
  · exact .base (.str _)
  · rename_i hs _
    rcases k.sqT hs with (h | ⟨o, h⟩) | ⟨o, its, n, hk, hc, _⟩
    · exact .base (.tup h)
    · exact .fTuple h
    · exact .kTuple hk hc
  · rename_i hs _
    exact .base (.lst (k.sub _ _ hs))
structure IsT (T : String) (p : D → Option Bool) : Prop where
  ok : ∀ d b, p d = some b → ∃ t, tyN d = some t ∧ kitB t T = some b
def isIntD : D → Option Bool
  | .int _ => some true | .bl _ => some true | .non => some false | .str _ => some false | .tup _ => some false | .lst _ => some false | _ => none
def isBoolD : D → Option Bool
  | .bl _ => some true | .int _ => some false | .non => some false | .str _ => some false | .tup _ => some false | .lst _ => some false | _ => none
def isStrD : D → Option Bool
  | .str _ => some true | .int _ => some false | .non => some false | .bl _ => some false | .tup _ => some false | .lst _ => some false | _ => none
def isTupD : D → Option Bool
  | .tup _ => some true | .int _ => some false | .non => some false | .bl _ => some false | .str _ => some false | .lst _ => some false | _ => none
def isLstD : D → Option Bool
  | .lst _ => some true | .int _ => some false | .non => some false | .bl _ => some false | .str _ => some false | .tup _ => some false | _ => none
theorem isT_int : IsT "int" isIntD := ⟨fun d b h => by cases d <;> simp only [isIntD] at h <;> cases h <;> exact ⟨_, rfl, by decide +kernel⟩⟩
theorem isT_bool : IsT "bool" isBoolD := ⟨fun d b h => by cases d <;> simp only [isBoolD] at h <;> cases h <;> exact ⟨_, rfl, by decide +kernel⟩⟩
theorem isT_str : IsT "str" isStrD := ⟨fun d b h => by cases d <;> simp only [isStrD] at h <;> cases h <;> exact ⟨_, rfl, by decide +kernel⟩⟩
theorem isT_tup : IsT "tuple" isTupD := ⟨fun d b h => by cases d <;> simp only [isTupD] at h <;> cases h <;> exact ⟨_, rfl, by decide +kernel⟩⟩
theorem isT_lst : IsT "list" isLstD := ⟨fun d b h => by cases d <;> simp only [isLstD] at h <;> cases h <;> exact ⟨_, rfl, by decide +kernel⟩⟩
def fIsi (p : D → Option Bool) (f : Env → Store → Res D) : Env → Store → Res D := fun ρ S => (f ρ S).bind fun d S1 => Res.of S1 ((p d).map .bl)
theorem de_isi {T : String} {p : D → Option Bool} {x : Str} {e : Expr} {p1 p2 pos : Pos} {f : Env → Store → Res D} (ht : IsT T p) (h : DE X cl W e f) (hg : Gl X "isinstance") (hm : X.mg "isinstance" = none) (hgx : Gl X x) (hmx : X.mg x = none) (hvx : bootBuiltins x = some (.type T))
    (hn : x ≠ "__name__" := by decide) (hd : (x == ("__debug__" : Str)) = false := by decide)
    (he : starEach [e, Expr.Name x p2] X.env = (false, eval e X.env) :: starEach [Expr.Name x p2] X.env := by rfl) (he2 : starEach [Expr.Name x p2] X.env = (false, eval (.Name x p2) X.env) :: starEach [] X.env := by rfl) (hpl : (backTo pos (starEach [Expr.Name x p2] X.env)).any (·.1) = false := by rfl) :
    DE X cl W (.Call (.Name "isinstance" p1) [e, .Name x p2] [] pos) (fIsi p f) := by
  refine PE.imp (pe_callB call_isi hg hm (by decide +kernel) (pa_cons h (pa_cons (pe_bltn (v := .ty T) hgx hmx hvx rfl hn hd) pa_nil he2) he) (he := he) (hpl := hpl)) fun σ H Q ⟨w, ρ, S, o, n, q⟩ => tG.at o n (Post.bind q fun d S1 w1 v H1 e1 o1 r1 p1 => ?_)
  cases hp : p d with
  | none => rw [hp] at p1; exact p1.elim
  | some b =>
    rw [hp] at p1
    obtain ⟨t, ht1, ht2⟩ := ht.ok d b hp
    exact ⟨v, .ty T, .type t, .type T, b, rfl, .ty T, r1.tyX o1 ht1, kit_ty ht2, p1.here o1 (.bl _)⟩

/-! ### the module's constants -/
theorem de_gint {x : Str} {i : Int} {t : Tok} {pos : Pos} (hg : Gl X x) (hm : X.mg x = some (.int i t)) (hd : (x == ("__debug__" : Str)) = false := by decide) : DE X cl W (.Name x pos) (fC (.int i)) := de_c (pe_glob (v := .int i) hg hm ⟨t, rfl⟩ hd) fun _ => .int i
theorem de_gstr {x y : Str} {t : Tok} {pos : Pos} (hg : Gl X x) (hm : X.mg x = some (.str y t)) (hd : (x == ("__debug__" : Str)) = false := by decide) : DE X cl W (.Name x pos) (fC (.str y)) := de_c (pe_glob (v := .str y) hg hm ⟨t, rfl⟩ hd) fun _ => .str y
/-- a tuple of the module's top, of plain values -/
theorem de_gtup {x : Str} {a : Addr} {l : List D} {pos : Pos} (hg : Gl X x) (hm : X.mg x = some (.ref a)) (h : ∀ w, R X.K w (.ref a) (.tup l)) (hd : (x == ("__debug__" : Str)) = false := by decide) : DE X cl W (.Name x pos) (fC (.tup l)) := de_c (pe_glob (v := .ref a) hg hm rfl hd) h
end
end BW
namespace BW
open PySem PySem.Spec PyProof.Rows L2
theorem u65 {k : Nat} {A : Around} (r : Room k A) : A.units + 65 < cLine := by have := r.un; omega
theorem u1 {k : Nat} {A : Around} (r : Room k A) : A.units + 1 < cLine := by have := r.un; omega
section
variable {X : Cx} {cl : Str → Addr} {e : Pt} {W : WX} {pos : Pos}
def fNew (g : Env → Store → Res (List D)) : Env → Store → Res (List D) := fun ρ S => (g ρ S).bind fun ds S1 => if ds.length ≤ LIM then .ok ds S1 else .bad
theorem dl_new {es : List Expr} {g : Env → Store → Res (List D)} (h : DA X cl W es g) : DL X cl W (.List es pos) (fNew g) := dl_lst h
/-- a + b of two lists, a new one -/
def fAddL (fa fb : Env → Store → Res D) : Env → Store → Res (List D) := fun ρ S => (fa ρ S).bind fun a S1 => (fb ρ S1).bind fun b S2 => match a, b with
  | .lst a, .lst b => if a.length + b.length ≤ LIM then .ok (a ++ b) S2 else .bad
  | _, _ => .bad
theorem PostL.bind {K : PySem.W.Frag} {α β : Type} {Rl : Wd → β → α → Prop} {σ : L2.St} {w : Wd} {H : Hp} {r : Res α} {k : α → Store → Res (List D)} {Q : VK} {Q1 : β → Hp → Prop} (h : PostL K cl W σ w H (r.bind k) Q)
    (hk : ∀ d S1 w1 v H1, Ext w H w1 H1 → Ok K cl w1 S1 H1 → Rl w1 v d → PostL K cl W σ w H (k d S1) Q → Q1 v H1) (ne : ∀ d S1 c S2, k d S1 = .err c S2 → True) : Post K cl W σ Rl w H r Q1 := by
  cases r with
  | ok d S => exact fun w1 v H1 e1 o1 r1 => hk d S w1 v H1 e1 o1 r1 h
  | err c S => exact h
  | bad => exact h
theorem PostL.mono {K : PySem.W.Frag} {σ : L2.St} {w w1 : Wd} {H H1 : Hp} {r : Res (List D)} {Q : VK} (x : Ext w H w1 H1) (h : PostL K cl W σ w H r Q) : PostL K cl W σ w1 H1 r Q := by
  cases r with
  | ok l S => exact fun w' a vs H' e o ha h' hi ra => h w' a vs H' (x.trans e) o (x.back ha) h' hi ra
  | err c S => exact fun w' H' e o => h w' H' (x.trans e) o
  | bad => exact h
theorem dl_add {a b : Expr} {fa fb : Env → Store → Res D} (ha : DE X cl W a fa) (hb : DE X cl W b fb) : DL X cl W (.BinOp a .Add b pos) (fAddL fa fb) := by
  refine PE.imp (pe_op op_cat ha hb) fun σ H Q ⟨w, ρ, S, o, n, p⟩ => ?_
  refine tG.at o n (PostL.bind p (fun a S1 w1 x H1 e1 o1 r1 p1 => tG.at o1 (n.mono e1) (PostL.bind (PostL.mono e1 p1) (fun b S2 w2 y H2 e2 o2 r2 p2 => ?_) (fun _ _ _ _ _ => trivial))) (fun _ _ _ _ _ => trivial))
  have p3 := PostL.mono e2 p2
  split at p3
  · split at p3
    · rename_i l m hl
      obtain ⟨u, vs, rfl, h1, h2⟩ := (r1.mono e2.le).lst_inv
      obtain ⟨v, us, rfl, h3, h4⟩ := r2.lst_inv
      refine ⟨u, v, vs, us, rfl, rfl, o2.sub _ _ h1, o2.sub _ _ h3, lim_le (by rw [h2.length, h4.length]; exact hl), fun q hq => ?_⟩
      exact p3 w2 q _ _ ((Ext.refl _ _).mut hq) (o2.mut (o2.hid hq)) hq upd_same (o2.hid hq) (h2.append h4)
    · exact p3.elim
  · exact p3.elim
/-- list(x), a new one -/
def fListL (fa : Env → Store → Res (List D)) : Env → Store → Res (List D) := fun ρ S => (fa ρ S).bind fun ds S1 => match ds with
  | [.lst l] => .ok l S1
  | [.tup l] => .ok l S1
  | _ => .bad
theorem dl_list {p pos : Pos} {a : Expr} {fa : Env → Store → Res (List D)} (ha : DA X cl W [a] fa) (hg : Gl X "list") (hm : X.mg "list" = none) (he : starEach [a] X.env = (false, eval a X.env) :: starEach [] X.env := by rfl) (hpl : (backTo pos (starEach [] X.env)).any (·.1) = false := by rfl) :
    DL X cl W (.Call (.Name "list" p) [a] [] pos) (fListL fa) := by
  refine PE.imp (pe_callTy call_list_of hg hm (by decide +kernel) ha (he := he) (hpl := hpl)) fun σ H Q ⟨w, ρ, S, o, n, p⟩ => ?_
  refine tG.at o n (PostL.bind p (fun ds S1 w1 xs H1 e1 o1 r1 p1 => ?_) (fun _ _ _ _ _ => trivial))
  have p2 := PostL.mono e1 p1
  split at p2
  · obtain ⟨v, rfl, rv⟩ := ra1 r1
    obtain ⟨a, vs, rfl, h1, h2⟩ := rv.lst_inv
    exact ⟨a, vs, rfl, .inl (o1.sqL h1), fun q hq => p2 w1 q vs _ ((Ext.refl _ _).mut hq) (o1.mut (o1.hid hq)) hq upd_same (o1.hid hq) h2⟩
  · obtain ⟨v, rfl, rv⟩ := ra1 r1
    obtain ⟨a, vs, rfl, h1, h2⟩ := rv.tup_inv
    exact ⟨a, vs, rfl, .inr (o1.sqT h1), fun q hq => p2 w1 q vs _ ((Ext.refl _ _).mut hq) (o1.mut (o1.hid hq)) hq upd_same (o1.hid hq) h2⟩
  · exact p2.elim
/-- x[b], x own -/
def fIxOwn (i : Nat) (fb : Env → Store → Res D) : Env → Store → Res D := fun ρ S => match ρ[i]? with
  | some (some (.own l)) => (fb ρ S).bind fun b S1 => match b with
    | .int j => Res.of S1 (atI l j)
    | _ => .bad
  | _ => .bad
theorem de_ixOwn {i : Nat} {x : Str} {p pos : Pos} {b : Expr} {fb : Env → Store → Res D} (hv : PE X (.Name x p) (tVar i)) (hb : DE X cl W b fb) (hs : PlainIx b := by intro _ _; rfl) : DE X cl W (.Subscript (.Name x p) b pos) (fIxOwn i fb) := by
  refine PE.imp (pe_ix ix_list hv hb hs) fun σ H Q ⟨w, ρ, S, o, n, q⟩ => ?_
  unfold fIxOwn at q
  split at q
  · rename_i l hl
    obtain ⟨v, hv, a, vs, rfl, ha, ra, hid⟩ := n.slot i _ hl
    refine ⟨_, hv, tG.at o n (Post.bind q fun b S1 w1 y H1 e1 o1 r1 p1 => ?_)⟩
    split at p1
    · rename_i j
      cases r1
      cases hj : L2.atI l j with
      | none => rw [hj] at p1; exact p1.elim
      | some d =>
        rw [hj] at p1
        obtain ⟨z, hz, rz⟩ := ra.atI hj
        exact ⟨a, vs, j, z, rfl, rfl, SqL.of (e1.keep a _ ha hid.nK), hz, p1.here o1 (rz.mono e1.le)⟩
    · exact p1.elim
  · exact q.elim
/-- x[b] = e, x own -/
def sPutOwn (i : Nat) (fb fe : Env → Store → Res D) : Stm := fun ρ S => Out.of (fe ρ S) ρ fun d S1 => match ρ[i]? with
  | some (some (.own l)) => Out.of (fb ρ S1) ρ fun b S2 => match b with
    | .int j => match ixN l.length j with
      | some k => .next (ρ.set i (some (.own (l.set k d)))) S2
      | none => .bad
    | _ => .bad
  | _ => .bad
theorem ds_putOwn {i : Nat} {x : Str} {p tpos : Pos} {b ex : Expr} {fb fe : Env → Store → Res D} (hv : PE X (.Name x p) (tVar i)) (hb : DE X cl W b fb) (he : DE X cl W ex fe)
    (ha : ∀ v, assign (.Subscript (.Name x p) b tpos) X.env v = (do
      let ov ← holding [v] (eval (.Name x p) X.env)
      let iv ← holding [v, ov] (eval b X.env)
      standAt tpos
      holding [v, ov, iv] (setItem ov iv v)
      release [v, ov, iv] []) := by intro _; rfl)
    (hs : swapsWithSole [.Subscript (.Name x p) b tpos] ex pos.line X.env = pure false := by rfl) (hw : swappedStores [.Subscript (.Name x p) b tpos] ex X.env = pure none := by rfl)
    (h1 : (assignEach [.Subscript (.Name x p) b tpos] X.env).map (·.2) = [assign (.Subscript (.Name x p) b tpos) X.env] := by rfl) :
    DS X cl e W (.Assign [.Subscript (.Name x p) b tpos] ex pos) (sPutOwn i fb fe) := by
  refine PS.imp (ps_asg he (pg_sub hv hb set_list ha) hs hw h1) fun Z σ H ⟨w, ρ, S, fs, q⟩ => fs.tG (PostS.expr q fs fun d S1 w1 v H1 e1 f1 r1 p1 => ?_)
  split at p1
  · rename_i l hl
    obtain ⟨u, hu, a, vs, rfl, ha, ra, hid⟩ := f1.env.slot i _ hl
    refine ⟨_, hu, f1.tG (PostS.expr p1 f1 fun b S2 w2 y H2 e2 f2 r2 p2 => ?_)⟩
    have ha2 := e2.keep a _ ha hid.nK
    have hid2 := hid.mono e2 ha
    split at p2
    · rename_i j
      cases r2
      split at p2
      · rename_i k hk
        refine ⟨a, vs, j, k, rfl, rfl, ha2, by rw [ra.length]; exact hk, ?_⟩
        exact p2 w2 σ _ (Le.refl _) (f2.mutOwn hl rfl hu hid2 rfl ⟨a, _, rfl, upd_same, RA.set (r1.mono e2.le) k (ra.mono e2.le), hid2⟩)
      · exact p2.elim
    · exact p2.elim
  · exact p1.elim
end
/-- which built-in names the module leaves alone -/
structure Bt (mg : Str → Option Value) : Prop where
  len : mg "len" = none
  isinstance : mg "isinstance" = none
  int : mg "int" = none
  bool : mg "bool" = none
  str : mg "str" = none
  tuple : mg "tuple" = none
  list : mg "list" = none
  set : mg "set" = none
  dict : mg "dict" = none
  all : mg "all" = none
  zip : mg "zip" = none
  enumerate : mg "enumerate" = none
  range : mg "range" = none
  sorted : mg "sorted" = none
  min : mg "min" = none
  max : mg "max" = none
end BW
namespace BW
open PySem PySem.Spec PyProof.Rows L2
section
variable {X : Cx} {cl : Str → Addr} {W : WX}
theorem de_gint' {x : Str} {i : Int} {pos : Pos} (hg : Gl X x) (hm : ∃ t, X.mg x = some (.int i t)) (hd : (x == ("__debug__" : Str)) = false := by decide) : DE X cl W (.Name x pos) (fC (.int i)) := hm.elim fun _ h => de_gint hg h hd
theorem de_gstr' {x y : Str} {pos : Pos} (hg : Gl X x) (hm : ∃ t, X.mg x = some (.str y t)) (hd : (x == ("__debug__" : Str)) = false := by decide) : DE X cl W (.Name x pos) (fC (.str y)) := hm.elim fun _ h => de_gstr hg h hd
theorem de_gtup' {x : Str} {l : List D} {pos : Pos} (hg : Gl X x) (hm : ∃ a, X.mg x = some (.ref a) ∧ ∀ w, R X.K w (.ref a) (.tup l)) (hd : (x == ("__debug__" : Str)) = false := by decide) : DE X cl W (.Name x pos) (fC (.tup l)) := hm.elim fun _ h => de_gtup hg h.1 h.2 hd
end
end BW
namespace BW
open PySem
theorem bb_int : bootBuiltins "int" = some (.type "int") := by decide +kernel
theorem bb_bool : bootBuiltins "bool" = some (.type "bool") := by decide +kernel
theorem bb_str : bootBuiltins "str" = some (.type "str") := by decide +kernel
theorem bb_tuple : bootBuiltins "tuple" = some (.type "tuple") := by decide +kernel
theorem bb_list : bootBuiltins "list" = some (.type "list") := by decide +kernel
theorem bb_set : bootBuiltins "set" = some (.type "set") := by decide +kernel
theorem bb_dict : bootBuiltins "dict" = some (.type "dict") := by decide +kernel
theorem bb_len : bootBuiltins "len" = some (.builtin "len") := by decide +kernel
theorem bb_isinstance : bootBuiltins "isinstance" = some (.builtin "isinstance") := by decide +kernel
theorem bb_all : bootBuiltins "all" = some (.builtin "all") := by decide +kernel
theorem bb_sorted : bootBuiltins "sorted" = some (.builtin "sorted") := by decide +kernel
theorem bb_min : bootBuiltins "min" = some (.builtin "min") := by decide +kernel
theorem bb_max : bootBuiltins "max" = some (.builtin "max") := by decide +kernel
end BW
namespace BW
open PySem PySem.Spec PyProof.Rows L2
/-! ### the end -/
/-- where a class stands -/
def clOf (K : PySem.W.Frag) : Str → Addr := fun x => match PySem.W.nsIn K mainGlobals x with
  | some (some (.ref a)) => a
  | _ => 0
theorem clOf_eq {K : PySem.W.Frag} {x : Str} {a : Addr} (h : PySem.W.nsIn K mainGlobals x = some (some (.ref a))) : clOf K x = a := by unfold clOf; rw [h]
theorem kTup {K : PySem.W.Frag} {a : Addr} {od : Option Addr} {its : List Value} {n : Nat} {sl : Array (Option Value)} {vs : List V} {ds : List D} (hk : K.lookup a = some ⟨.type "tuple", od, .seq its.toArray n, sl⟩) (hz : its.length ≤ 100) (hv : Vals vs its) (ra : ∀ w, RA K w vs ds) (w : Wd) : R K w (.ref a) (.tup ds) :=
  .tup (.inr ⟨_, its.toArray, n, hk, rfl, rfl, by simpa using Nat.le_trans hz (by decide), by simpa using hv⟩) (ra w)
def lawW (a : Addr) (H : Hp) : Wd := ⟨0, fun _ => 0, fun b => if b = a then H a else none⟩
theorem law_start {K : PySem.W.Frag} {cl : Str → Addr} {H : Hp} {a : Addr} {ns : List Int} (h : SqL K H a (ns.map V.int)) : Ok K cl (lawW a H) [] H ∧ R K (lawW a H) (.ref a) (.scr ns) := by
  have e : (lawW a H).F a = H a := if_pos rfl
  refine ⟨⟨rfl, fun b o hb => ?_, fun i c hc => by simp at hc, fun i j hi => absurd hi (Nat.not_lt_zero _)⟩, .scr ?_⟩
  · by_cases eb : b = a
    · subst eb; rw [e] at hb; exact hb
    · have : (lawW a H).F b = none := if_neg eb
      rw [this] at hb; cases hb
  · rcases h with (h | ⟨o, h⟩) | h
    · exact .inl (.inl (e.trans h))
    · exact .inl (.inr ⟨o, e.trans h⟩)
    · exact .inr h
/-- what is left to show of a law -/
def LawOk (m : List D → Store → Res D) : Prop := ∀ ns : List Int, ns.length ≤ 63 → ∃ S, m [.scr ns] [] = .ok (.bl true) S
theorem law_sp {K : PySem.W.Frag} {cl : Str → Addr} {m : List D → Store → Res D} (h : LawOk m) {H : Hp} {a : Addr} {ns : List Int} (hl : ns.length ≤ 63) (hs : SqL K H a (ns.map V.int)) : spM K cl 1 m [.ref a] H (fun v _ => v = .bl true) fun _ _ _ => False := by
  obtain ⟨o, r⟩ := law_start (cl := cl) hs
  obtain ⟨S, e⟩ := h ns hl
  refine ⟨_, [], [.scr ns], o, .one r, rfl, ?_⟩
  rw [e]
  exact fun w' v H' _ _ rv => rv.bl_inv
theorem law_cx {P : Program} {w : World} {H : Hp} {s : Shared} {e : Value} {s' : Shared} (h : L2.CX P w [] H s (fun _ _ _ => False) e s') : False := by
  obtain ⟨_, _, _, _, _, _, _, _, _, _, _, _, z⟩ := h
  exact z
theorem walk_law {l : PySem.W.OpenLaw} {k : Nat} {m : List D → Store → Res D} {q : Program} {loose : List Str} {XP : (Str → Option Value) → Heap → Prop} {YP : World → Heap → Prop} {d : DefRec} {K : Params → PySem.W.Frag} (hlaw : LawOk m) (hn : l.most = some 63) (hdf : d.params.defaults = []) (hr : Room k callerA)
    (hY : ∀ (w : World) (h : Heap), YP w h → (K w.params).In h)
    (F : ∀ (w : World) (mg : Str → Option Value) (fa : Addr) (h : Heap), (K w.params).In h → h.Ns mainGlobals mg → mg d.name = some (.ref fa) →
      ∃ fd : FuncData, (∀ (s : Shared) (u : Value), BindsTo s fd ⟨[u], []⟩ [("script", u)]) ∧ ∀ base : Heap, (K w.params).In base → base.Ns mainGlobals mg → FnOk l.prog w (K w.params) mg base (L2.CX l.prog w) k fa fd ["script"] (spM (K w.params) (clOf (K w.params)) 1 m)) :
    PySem.W.WalkO q loose XP YP l.row.toRowW d [] (fun f vs => PySem.call f vs) :=
  L2.walk_of (n := 63) (k := k) (x := "script") (CX := fun w => L2.CX l.prog w) (sp := fun w => spM (K w.params) (clOf (K w.params)) 1 m) hn (by decide) hdf hr hY F (fun _ _ a ns hl _ hS => law_sp hlaw hl hS) fun _ _ _ _ _ z => law_cx z
end BW
namespace BW
open PySem L2
/-! ### reckoning with mirrors -/
section
variable {α β : Type} (ρ : Env) (S : Store)
@[simp] theorem bind_ok (a : α) (k : α → Store → Res β) : (Res.ok a S).bind k = k a S := rfl
@[simp] theorem bind_err (c : Str) (k : α → Store → Res β) : (Res.err c S : Res α).bind k = .err c S := rfl
@[simp] theorem bind_bad (k : α → Store → Res β) : (Res.bad : Res α).bind k = .bad := rfl
@[simp] theorem of_some (a : α) : Res.of S (some a) = .ok a S := rfl
@[simp] theorem of_none : Res.of S (none : Option α) = .bad := rfl
@[simp] theorem oof_ok (a : α) (k : α → Store → Out) : Out.of (.ok a S) ρ k = k a S := rfl
@[simp] theorem oof_err (c : Str) (k : α → Store → Out) : Out.of (.err c S : Res α) ρ k = .err c ρ S := rfl
@[simp] theorem oof_bad (k : α → Store → Out) : Out.of (.bad : Res α) ρ k = .bad := rfl
@[simp] theorem noErr_ok (a : α) : noErr (.ok a S) = .ok a S := rfl
@[simp] theorem e_fC (d : D) : fC d ρ S = .ok d S := rfl
@[simp] theorem e_fNil : fNil ρ S = .ok [] S := rfl
@[simp] theorem e_fCons (f : Env → Store → Res D) (g : Env → Store → Res (List D)) : fCons f g ρ S = (f ρ S).bind fun d S1 => (g ρ S1).bind fun ds S2 => .ok (d :: ds) S2 := rfl
@[simp] theorem e_fTup (g : Env → Store → Res (List D)) : fTup g ρ S = (g ρ S).bind fun ds S1 => if ds.length ≤ LIM then .ok (.tup ds) S1 else .bad := rfl
@[simp] theorem e_fLst (g : Env → Store → Res (List D)) : fLst g ρ S = (g ρ S).bind fun ds S1 => if ds.length ≤ LIM then .ok (.lst ds) S1 else .bad := rfl
@[simp] theorem e_f2 (g : D → D → Store → Option D) (fa fb : Env → Store → Res D) : f2 g fa fb ρ S = (fa ρ S).bind fun a S1 => (fb ρ S1).bind fun b S2 => Res.of S2 (g a b S2) := rfl
@[simp] theorem e_fN (g : List D → Store → Option D) (fa : Env → Store → Res (List D)) : fN g fa ρ S = (fa ρ S).bind fun ds S1 => Res.of S1 (g ds S1) := rfl
@[simp] theorem e_fM (n : Nat) (m : List D → Store → Res D) (fa : Env → Store → Res (List D)) : fM n m fa ρ S = (fa ρ S).bind fun ds S1 => if ds.length = n then m ds S1 else .bad := rfl
@[simp] theorem e_fB (f : Env → Store → Res D) : fB f ρ S = (f ρ S).bind fun d S1 => match d with | .bl b => .ok b S1 | _ => .bad := rfl
@[simp] theorem e_fAnd (f g : Env → Store → Res Bool) : fAnd f g ρ S = (f ρ S).bind fun b S1 => if b = true then g ρ S1 else .ok false S1 := rfl
@[simp] theorem e_fOr (f g : Env → Store → Res Bool) : fOr f g ρ S = (f ρ S).bind fun b S1 => if b = true then .ok true S1 else g ρ S1 := rfl
@[simp] theorem e_fNot (f : Env → Store → Res Bool) : fNot f ρ S = (f ρ S).bind fun b S1 => .ok (!b) S1 := rfl
@[simp] theorem e_vAnd (f g : Env → Store → Res D) : vAnd f g ρ S = (f ρ S).bind fun d S1 => match d with | .bl true => g ρ S1 | .bl false => .ok (.bl false) S1 | _ => .bad := rfl
@[simp] theorem e_vOr (f g : Env → Store → Res D) : vOr f g ρ S = (f ρ S).bind fun d S1 => match d with | .bl true => .ok (.bl true) S1 | .bl false => g ρ S1 | _ => .bad := rfl
@[simp] theorem e_vNot (f : Env → Store → Res D) : vNot f ρ S = (f ρ S).bind fun d S1 => match d with | .bl b => .ok (.bl (!b)) S1 | _ => .bad := rfl
@[simp] theorem e_fNeg (f : Env → Store → Res D) : fNeg f ρ S = (f ρ S).bind fun d S1 => match d with | .int i => .ok (.int (-i)) S1 | _ => .bad := rfl
@[simp] theorem e_fIf (t : Env → Store → Res Bool) (f g : Env → Store → Res D) : fIf t f g ρ S = (t ρ S).bind fun b S1 => if b = true then f ρ S1 else g ρ S1 := rfl
@[simp] theorem e_fChain (g g' : D → D → Store → Option D) (fa fb fc : Env → Store → Res D) : fChain g g' fa fb fc ρ S = (fa ρ S).bind fun a S1 => (fb ρ S1).bind fun b S2 => match g a b S2 with
    | some (.bl true) => (fc ρ S2).bind fun c S3 => Res.of S3 (g' b c S3)
    | some (.bl false) => .ok (.bl false) S2
    | _ => .bad := rfl
@[simp] theorem e_fIsi (p : D → Option Bool) (f : Env → Store → Res D) : fIsi p f ρ S = (f ρ S).bind fun d S1 => Res.of S1 ((p d).map .bl) := rfl
@[simp] theorem e_fCut (f : Env → Store → Res D) (l h : Env → Store → Res (Option Int)) : fCut f l h ρ S = (f ρ S).bind fun d S1 => (l ρ S1).bind fun lo S2 => (h ρ S2).bind fun hi S3 => Res.of S3 (gCut d lo hi) := rfl
@[simp] theorem e_oNone : oNone ρ S = .ok none S := rfl
@[simp] theorem e_oSome (f : Env → Store → Res D) : oSome f ρ S = (f ρ S).bind fun d S1 => match d with | .int i => .ok (some i) S1 | _ => .bad := rfl
@[simp] theorem e_fFrz (f : Env → Store → Res (List D)) : fFrz f ρ S = (f ρ S).bind fun l S1 => .ok (.lst l) S1 := rfl
@[simp] theorem e_fNew (g : Env → Store → Res (List D)) : fNew g ρ S = (g ρ S).bind fun ds S1 => if ds.length ≤ LIM then .ok ds S1 else .bad := rfl
@[simp] theorem e_fYes : fYes ρ S = .ok true S := rfl
@[simp] theorem e_fComp (fi : Env → Store → Res (List D)) (t : Tgt) (ft : Env → Store → Res Bool) (fe : Env → Store → Res D) (vs : List Nat) : fComp fi t ft fe vs ρ S = (fi ρ S).bind fun ds S1 => compL t ft fe (wipeE ρ vs) ds S1 [] := rfl
@[simp] theorem e_fItems (f : Env → Store → Res D) : fItems f ρ S = (f ρ S).bind fun d S1 => match d with
  | .lst l => .ok l S1
  | .tup l => .ok l S1
  | .str x => .ok (x.cps.toList.map fun c => .str ⟨#[c]⟩) S1
  | .dic kvs => .ok (kvs.map fun kv => kD kv.1) S1
  | _ => .bad := rfl
@[simp] theorem e_fI (k : List D → Option (List D)) (fa : Env → Store → Res (List D)) : fI k fa ρ S = (fa ρ S).bind fun ds S1 => Res.of S1 (k ds) := rfl
@[simp] theorem e_sNil : sNil ρ S = .next ρ S := rfl
@[simp] theorem e_sRet (f : Env → Store → Res D) : sRet f ρ S = Out.of (f ρ S) ρ fun d S1 => .ret d S1 := rfl
@[simp] theorem e_sExpr (f : Env → Store → Res D) : sExpr f ρ S = Out.of (f ρ S) ρ fun _ S1 => .next ρ S1 := rfl
@[simp] theorem e_sIf (t : Env → Store → Res Bool) (g h : Stm) : sIf t g h ρ S = Out.of (t ρ S) ρ fun b S1 => if b = true then g ρ S1 else h ρ S1 := rfl
@[simp] theorem e_sSet (i : Nat) (f : Env → Store → Res D) : sSet i f ρ S = Out.of (f ρ S) ρ fun d S1 => .next (ρ.set i (some (.dat d))) S1 := rfl
@[simp] theorem e_sSetOwn (i : Nat) (f : Env → Store → Res (List D)) : sSetOwn i f ρ S = Out.of (f ρ S) ρ fun l S1 => .next (ρ.set i (some (.own l))) S1 := rfl
@[simp] theorem e_sFor (fi : Env → Store → Res (List D)) (t : Tgt) (g : Stm) : sFor fi t g ρ S = Out.of (fi ρ S) ρ fun ds S1 => forL t g ds ρ S1 := rfl
@[simp] theorem e_sAsg (t : Tgt) (f : Env → Store → Res D) : sAsg t f ρ S = Out.of (f ρ S) ρ fun d S1 => match t d ρ with | some ρ' => .next ρ' S1 | none => .bad := rfl
@[simp] theorem e_tgName (i : Nat) (d : D) : tgName i d ρ = some (ρ.set i (some (.dat d))) := rfl
@[simp] theorem e_tgNil : tgNil [] ρ = some ρ := rfl
@[simp] theorem e_tgCons (t : Tgt) (u : Tgts) (d : D) (r : List D) : tgCons t u (d :: r) ρ = (t d ρ).bind (u r) := rfl
@[simp] theorem e_tgTup (n : Nat) (u : Tgts) (l : List D) : tgTup n u (.tup l) ρ = if l.length = n then u l ρ else none := rfl
end
theorem fV_at {i : Nat} {ρ : Env} {d : D} {S : Store} (h : ρ[i]? = some (some (.dat d))) : fV i ρ S = .ok d S := by unfold fV; rw [h]
@[simp] theorem e_seq_next (g h : Stm) (ρ : Env) (S : Store) : sSeq g h ρ S = match g ρ S with | .next ρ1 S1 => h ρ1 S1 | o => o := rfl
@[simp] theorem e_fV0 (a : Slot) (l : Env) (S : Store) : fV 0 (some a :: l) S = match a with | .dat d => .ok d S | _ => .bad := by cases a <;> rfl
@[simp] theorem e_fVs (i : Nat) (a : Option Slot) (l : Env) (S : Store) : fV (i + 1) (a :: l) S = fV i l S := by unfold fV; simp
@[simp] theorem e_fVn (a : Option Slot) (l : Env) (S : Store) (i : Nat) : fV i.succ (a :: l) S = fV i l S := by unfold fV; simp
@[simp] theorem e_start (n : Nat) (ds : List D) : startE n ds = ds.map (fun d => some (.dat d)) ++ List.replicate (n - ds.length) none := rfl
@[simp] theorem e_mOf (n : Nat) (g : Stm) (ds : List D) (S : Store) : mOf n g ds S = match g (startE n ds) S with | .next _ S' => .ok .non S' | .ret d S' => .ok d S' | .err c _ S' => .err c S' | _ => .bad := rfl
/-! ### operations -/
section
variable (S : Store)
@[simp] theorem o1 (i j : Int) : gAdd (.int i) (.int j) S = some (.int (i + j)) := rfl
@[simp] theorem o2 (i j : Int) : gSub (.int i) (.int j) S = some (.int (i - j)) := rfl
theorem mul_ok {i j : Int} (h : (-(2 ^ 64) < i ∧ i < 2 ^ 64) ∨ (-(2 ^ 64) < j ∧ j < 2 ^ 64)) : gMul (.int i) (.int j) S = some (.int (i * j)) := by
  show (if _ then _ else _) = _
  rw [if_pos h]
theorem fdiv_ok {i j : Int} (h1 : 0 < j) (h2 : j < 1073741824) : gFdiv (.int i) (.int j) S = some (.int (i / j)) := by
  show (if _ then _ else _) = _
  rw [if_pos ⟨h1, h2⟩]
theorem mod_ok {i j : Int} (h : 0 < j) : gMod (.int i) (.int j) S = some (.int (i % j)) := by
  show (if _ then _ else _) = _
  rw [if_pos h]
@[simp] theorem o_lenL (l : List D) : gLen [.lst l] S = some (.int (l.length : Nat)) := rfl
@[simp] theorem o_lenT (l : List D) : gLen [.tup l] S = some (.int (l.length : Nat)) := rfl
@[simp] theorem o_lenS (l : List Int) : gLen [.scr l] S = some (.int (l.length : Nat)) := rfl
theorem eq_ok {a b : D} (neg : Bool) (ha : okD 12 a = true) (hb : okD 12 b = true) : gEq neg a b S = some (.bl (xor neg (deq a b))) := by
  unfold gEq
  rw [ha, hb]
  rfl
@[simp] theorem deq_int (i j : Int) : deq (.int i) (.int j) = (i == j) := by simp [deq, toPy, PyData.eqv]
@[simp] theorem deq_str (i j : Str) : deq (.str i) (.str j) = (i == j) := by simp [deq, toPy, PyData.eqv]
@[simp] theorem eq_int (neg : Bool) (i j : Int) : gEq neg (.int i) (.int j) S = some (.bl (xor neg (i == j))) := by rw [eq_ok S neg rfl rfl, deq_int]
@[simp] theorem ix_tup_nat (l : List D) (n : Nat) : gIx (.tup l) (.int (n : Int)) S = l[n]? := by
  show atI l _ = _
  unfold atI ixN
  rw [if_pos (Int.natCast_nonneg n)]
  by_cases h : n < l.length
  · rw [if_pos (by omega)]; simp
  · rw [if_neg (by omega)]; simp; omega
@[simp] theorem ix_lst_nat (l : List D) (n : Nat) : gIx (.lst l) (.int (n : Int)) S = l[n]? := ix_tup_nat S l n
theorem ix_tup (l : List D) {i : Int} (h : 0 ≤ i) : gIx (.tup l) (.int i) S = l[i.toNat]? := by
  have := ix_tup_nat S l i.toNat
  rw [Int.toNat_of_nonneg h] at this
  exact this
theorem ix_lst (l : List D) {i : Int} (h : 0 ≤ i) : gIx (.lst l) (.int i) S = l[i.toNat]? := ix_tup S l h
end
theorem lim_small {n : Nat} (h : n ≤ 1000) : n ≤ LIM := Nat.le_trans h (by decide)
theorem limlt_small {n : Nat} (h : n ≤ 1000) : n < LIM := Nat.lt_of_le_of_lt h (by decide)
/-! ### plain data -/
def PD : Nat → D → Bool
  | _, .non => true
  | _, .bl _ => true
  | _, .int _ => true
  | _, .str x => PyData.strOk x
  | n + 1, .tup l => decide (l.length ≤ 1000) && l.all (PD n)
  | n + 1, .lst l => decide (l.length ≤ 1000) && l.all (PD n)
  | _, _ => false
theorem PD_okD : ∀ {n : Nat} {d : D}, PD n d = true → okD n d = true := by
  intro n
  induction n with
  | zero => intro d h; cases d <;> simp_all [PD, BW.okD]
  | succ n ih =>
    intro d h
    cases d <;> simp_all [PD, BW.okD]
theorem okD_up : ∀ {n : Nat} {d : D}, okD n d = true → okD (n + 1) d = true := by
  intro n
  induction n with
  | zero => intro d h; cases d <;> simp_all [okD]
  | succ n ih =>
    intro d h
    cases d <;> simp_all [okD]
theorem okD_le {n m : Nat} {d : D} (h : okD n d = true) (hn : n ≤ m) : okD m d = true := by
  induction hn with
  | refl => exact h
  | step _ ih => exact okD_up ih
theorem PD_up : ∀ {n : Nat} {d : D}, PD n d = true → PD (n + 1) d = true := by
  intro n
  induction n with
  | zero => intro d h; cases d <;> simp_all [PD]
  | succ n ih =>
    intro d h
    cases d <;> simp_all [PD]
theorem PD_le {n m : Nat} {d : D} (h : PD n d = true) (hn : n ≤ m) : PD m d = true := by
  induction hn with
  | refl => exact h
  | step _ ih => exact PD_up ih
theorem PD_ok12 {n : Nat} {d : D} (h : PD n d = true) (hn : n ≤ 12 := by decide) : BW.okD 12 d = true := okD_le (PD_okD h) hn
theorem PD_ty {n : Nat} {d : D} (h : PD n d = true) : ∃ t, tyN d = some t := by
  cases d <;> first | exact ⟨_, rfl⟩ | (cases n <;> simp [PD] at h)
theorem PD_tup {n : Nat} {l : List D} (h : PD (n + 1) (.tup l) = true) : l.length ≤ 1000 ∧ ∀ x ∈ l, PD n x = true := by
  simp [PD] at h
  exact h
theorem PD_lst {n : Nat} {l : List D} (h : PD (n + 1) (.lst l) = true) : l.length ≤ 1000 ∧ ∀ x ∈ l, PD n x = true := by
  simp [PD] at h
  exact h
/-! ### comprehensions -/
theorem compL_map {fe : Env → Store → Res D} {ρ : Env} {t : Tgt} {S : Store} (f : D → D) : ∀ (xs acc : List D), (∀ x ∈ xs, ∃ ρ1, t x ρ = some ρ1 ∧ fe ρ1 S = .ok (f x) S) → acc.length + xs.length ≤ 100000 → compL t fYes fe ρ xs S acc = .ok (acc ++ xs.map f) S
  | [], acc, _, _ => by simp [compL]
  | x :: xs, acc, h, hl => by
    obtain ⟨ρ1, h1, h2⟩ := h x List.mem_cons_self
    have hlt : acc.length < LIM := Nat.lt_of_lt_of_le (by simp at hl; omega) (show 100000 ≤ LIM from Nat.le_refl _)
    have ih := compL_map (S := S) f xs (acc ++ [f x]) (fun y hy => h y (List.mem_cons_of_mem _ hy)) (by simp at hl ⊢; omega)
    simp only [compL, h1, e_fYes, noErr_ok, bind_ok, if_true, h2]
    rw [if_pos hlt, ih]
    simp
theorem compL_filter {ft : Env → Store → Res Bool} {fe : Env → Store → Res D} {ρ : Env} {t : Tgt} {S : Store} (p : D → Bool) (f : D → D) : ∀ (xs acc : List D), (∀ x ∈ xs, ∃ ρ1, t x ρ = some ρ1 ∧ ft ρ1 S = .ok (p x) S ∧ (p x = true → fe ρ1 S = .ok (f x) S)) → acc.length + xs.length ≤ 100000 → compL t ft fe ρ xs S acc = .ok (acc ++ (xs.filter p).map f) S
  | [], acc, _, _ => by simp [compL]
  | x :: xs, acc, h, hl => by
    obtain ⟨ρ1, h1, h2, h3⟩ := h x List.mem_cons_self
    simp only [compL, h1, h2, noErr_ok, bind_ok]
    by_cases hp : p x = true
    · have hlt : acc.length < LIM := Nat.lt_of_lt_of_le (by simp at hl; omega) (show 100000 ≤ LIM from Nat.le_refl _)
      have ih := compL_filter (S := S) (fe := fe) p f xs (acc ++ [f x]) (fun y hy => h y (List.mem_cons_of_mem _ hy)) (by simp at hl ⊢; omega)
      rw [if_pos hp, h3 hp]
      simp only [noErr_ok, bind_ok]
      rw [if_pos hlt, ih]
      simp [hp]
    · have ih := compL_filter (S := S) (fe := fe) p f xs acc (fun y hy => h y (List.mem_cons_of_mem _ hy)) (by simp at hl ⊢; omega)
      rw [if_neg hp, ih]
      simp [hp]
theorem bools_map {α : Type} (p : α → Bool) : ∀ xs : List α, bools? (xs.map fun x => D.bl (p x)) = some (xs.map p)
  | [] => rfl
  | x :: xs => by simp [bools?, bools_map p xs]
theorem all_map (S : Store) {α : Type} (p : α → Bool) (xs : List α) : gAll [.lst (xs.map fun x => D.bl (p x))] S = some (.bl (xs.all p)) := by
  simp only [gAll, bools_map, Option.map_some]
  congr 2
  induction xs with
  | nil => rfl
  | cons x xs ih => simp [ih]
theorem any_strs (s : Str) : ∀ ws : List Str, (ws.map D.str).any (fun z => deq z (.str s)) = ws.any (· == s)
  | [] => rfl
  | w :: ws => by simp only [List.map_cons, List.any_cons, deq_str, any_strs s ws]
theorem in_strs (S : Store) (neg : Bool) (s : Str) (ws : List Str) (hs : PyData.strOk s = true) (hw : ws.all PyData.strOk = true) : gIn neg (.str s) (.tup (ws.map .str)) S = some (.bl (xor neg (ws.any (· == s)))) := by
  have h : okD 12 (.tup (ws.map D.str)) = true := by
    simp only [okD, List.all_map]
    exact hw
  have h2 : okD 12 (.str s) = true := hs
  show (if okD 12 (.str s) && okD 12 (.tup (ws.map D.str)) then some (D.bl (xor neg ((ws.map D.str).any fun z => deq z (.str s)))) else none) = _
  rw [h, h2, any_strs]
  rfl
theorem not_str_any {d : D} (h : ∀ s, d ≠ .str s) : ∀ ws : List Str, (ws.map D.str).any (fun z => deq z d) = false
  | [] => rfl
  | w :: ws => by
    simp only [List.map_cons, List.any_cons, not_str_any h ws, Bool.or_false]
    cases d <;> first | exact absurd rfl (h _) | rfl
theorem in_strs_no (S : Store) (neg : Bool) {d : D} (ws : List Str) (hd : okD 12 d = true) (h : ∀ s, d ≠ .str s) (hw : ws.all PyData.strOk = true) : gIn neg d (.tup (ws.map .str)) S = some (.bl neg) := by
  have h1 : okD 12 (.tup (ws.map D.str)) = true := by
    simp only [okD, List.all_map]
    exact hw
  have : gIn neg d (.tup (ws.map .str)) S = (if okD 12 d && okD 12 (.tup (ws.map D.str)) then some (D.bl (xor neg ((ws.map D.str).any fun z => deq z d))) else none) := by cases d <;> rfl
  rw [this, h1, hd, not_str_any h]
  simp
theorem deq_no_str {d : D} (h : ∀ s, d ≠ .str s) (s : Str) : deq d (.str s) = false := by
  cases d <;> first | exact absurd rfl (h _) | rfl
end BW
namespace BW
open PySem PySem.Spec PyProof.Rows L2
/-! ### raise -/
def sRaise (c : Str) : Stm := fun ρ S => .err c ρ S
abbrev veMro : List Value := [.type "ValueError", .type "Exception", .type "BaseException", .type "object"]
/-- an own class of errors, as the module has it -/
structure XcOk (K : PySem.W.Frag) (mg : Str → Option Value) (cl : Str → Addr) (x : Str) : Prop where
  g : mg x = some (.ref (cl x))
  q : PySem.W.excIn K (cl x) veMro "ValueError.__new__" = true
  k : PySem.W.keepIn K (.ref (cl x)) = true
  b : PySem.W.subIn K (.ref (cl x)) (.type "BaseException") = some true
  t : PySem.W.typeIn K (.ref (cl x)) = some (.type "type")
section
variable {X : Cx} {cl : Str → Addr} {W : WX} {e : Pt}
theorem ds_raise {x m : Str} {j : Nat} {p p2 pos pos' : Pos} (C : XcOk X.K X.mg cl x) (hc : X.calm = true) (tk : Takes X W) (hg : Gl X x) (hdb : (x == ("__debug__" : Str)) = false := by decide) :
    DS X cl e W (.Raise (some (.Call (.Name x p) [.Constant (.str m) j p2] [] pos)) none pos') (sRaise x) :=
  PS.imp (ps_raise hc tk (pmk_own PySem.F.excBase_ValueError C.q C.g C.k (raises_own C.b C.t) hg hdb)) fun Z σ H ⟨w, ρ, S, fs, p⟩ => p w σ H (Le.refl _) fs

/-! ### isinstance of the handled error -/
/-- slot i holds the address a -/
def fAt {α : Type} (i : Nat) (a : Addr) (r : Store → Res α) : BW.Env → Store → Res α := fun ρ S => match ρ[i]? with
  | some (some (.adr b)) => if b = a then r S else .bad
  | _ => .bad
theorem fAt_inv {K : PySem.W.Frag} {α : Type} {i : Nat} {a : Addr} {r : Store → Res α} {ρ : BW.Env} {S : Store} {σ : L2.St} {H : Hp} {w : Wd} (n : EnvR K w H σ ρ) {P : Res α → Prop} (hb : ¬ P .bad) (h : P (fAt i a r ρ S)) : σ[i]? = some (some (.ref a)) ∧ P (r S) := by
  unfold fAt at h
  split at h
  · rename_i b eb
    split at h
    · rename_i e
      subst e
      obtain ⟨v, hv, sv⟩ := n.slot i _ eb
      cases sv
      exact ⟨hv, h⟩
    · exact absurd h hb
  · exact absurd h hb
theorem call_isP {a E : Addr} {oe : Obj} (C : ExcC X.K E) (hp : (a, oe) ∈ X.pn) (hz : Zc (.ref E) none oe) (hf : ∃ vs, oe.data = .fields vs) : CallR X (.builtin "isinstance") (rIsE X.K E a) := by
  intro pins s σ H xs us Q I r h
  obtain ⟨c, cv, b, rfl, hcv, e, q⟩ := h
  match us, r with
  | [u1, u2], .cons r1 (.cons r2 .nil) =>
    cases r1
    have ec := hcv _ r2
    subst ec
    have hget := (I.pin (a, oe) (List.mem_append_left _ hp)).1
    obtain ⟨vs, hv⟩ := hf
    have J : PySem.W.InstAt s.heap a oe E none := by
      cases oe with
      | mk oc od oda osl =>
        have h1 := hz.1
        have h2 := hz.2
        dsimp only at h1 h2 hv
        subst h1 h2 hv
        exact ⟨hget, rfl, rfl, trivial⟩
    have kx := PySem.W.handS_kitx_exc (x := a) (ox := oe) C.hg C.hk C.hs C.hd C.ha C.hn C.ht C.hm
    exact PySem.W.kia_one kx I.kIn J e (fun z => nomatch z) fun tk => ⟨.bl b, H, I.kept (t' := tk) fun _ _ z => z, rfl, q⟩
/-- isinstance(e, x), x a class of the text -/
theorem de_isE {i : Nat} {a E : Addr} {oe : Obj} {b : Bool} {c : V} {cv : Value} {n x : Str} {p1 p2 p3 pos : Pos} (C : ExcC X.K E) (hp : (a, oe) ∈ X.pn) (hz : Zc (.ref E) none oe) (hf : ∃ vs, oe.data = .fields vs) (hv : PE X (.Name n p3) (tVar i)) (hx : PE X (.Name x p2) (tC c)) (hcv : ∀ u, RelV c u → u = cv) (hk : PySem.W.kitOne X.K (.ref E) cv = some b)
    (hg : Gl X "isinstance") (hm : X.mg "isinstance" = none) (he : starEach [Expr.Name n p3, Expr.Name x p2] X.env = (false, eval (.Name n p3) X.env) :: starEach [Expr.Name x p2] X.env := by rfl) (he2 : starEach [Expr.Name x p2] X.env = (false, eval (.Name x p2) X.env) :: starEach [] X.env := by rfl) (hpl : (backTo pos (starEach [Expr.Name x p2] X.env)).any (·.1) = false := by rfl) :
    DE X cl W (.Call (.Name "isinstance" p1) [.Name n p3, .Name x p2] [] pos) (fAt i a fun S => .ok (.bl b) S) := by
  refine PE.imp (pe_callB (call_isP C hp hz hf) hg hm (by decide +kernel) (pa_cons hv (pa_cons hx pa_nil he2) he) (he := he) (hpl := hpl)) fun σ H Q ⟨w, ρ, S, o, n, q⟩ => ?_
  obtain ⟨h1, h2⟩ := fAt_inv (P := fun r => Post X.K cl W σ (R X.K) w H r Q) n (fun z => z) q
  exact ⟨.ref a, h1, c, cv, b, rfl, hcv, hk, h2.here o (.bl b)⟩
end

/-! ### a def that takes the handled error -/
structure FnE (P : Program) (w : World) (K : PySem.W.Frag) (mg : Str → Option Value) (base : Heap) (k : Nat) (f : Addr) (fd : FuncData) (ps : List Str) (p : Addr × Obj) (sp : Sp) : Prop where
  len : ∀ vs H Q E, sp vs H Q E → vs.length = ps.length
  run : ∀ (A : Around) (outer : List PySem.Env) (s : Shared) (H : Hp) (args : Args) (us : List Value) (vs : List V) (Q : VK) (E : XK), L2H.RoomH k A → L2H.PinOk outer H s p → Env0 P w K mg base A outer s H → BindsTo s fd args (ps.zip us) → Vals vs us →
    sp vs H Q E → codeAny (model P w) A (.call (.ref f) args) (CR (L2.CX P w) outer P w H s Q E) s
section
variable {P : Program} {w : World} {K : PySem.W.Frag} {mg : Str → Option Value} {base : Heap} {cl : Str → Addr}
theorem FnE.of {x qual : Str} {st : Stmt} {f : Addr} {fd : FuncData} {N ps : List Str} {k : Nat} {p : Addr × Obj} {sp : Sp} (F : Fun K x qual st f fd) (Sc : FnScope N ps (defScope st)) (len : ∀ vs H Q E, sp vs H Q E → vs.length = ps.length)
    (body : ∀ (cdv : Value) (A : Around) (outer : List PySem.Env) (s : Shared) (H : Hp) (vs : List V) (Q : VK) (E : XK), L2H.RoomH k (A.deeper (envOfC qual (defScope st) s.heap.objs.size f cdv)) → sp vs H Q E →
      ∃ t, PSs (L2H.cxH (L2.CX P w) P w K mg base N qual (defScope st) f cdv A outer s H E p) (defBody st) t ∧ t { nx := fun _ H' => Q .non H', rt := Q } (L2.start N vs) H) : FnE P w K mg base (k + 1) f fd ps p sp := by
  obtain ⟨oc, od, kV, doc, pm, an, cdv, ct, osl, rfl, lk, hcd⟩ := F.ex
  refine ⟨len, fun A outer s H args us vs Q E room pin e0 binds rel want => ?_⟩
  have there : ∀ b o, base.get? b = some o → s.heap.get? b = some o := fun b o e => (e0.bs b o e).1
  have KX : K.In s.heap := e0.mod.kin.keeps there
  have kinds : ∀ y ∈ ps.zip us, (defScope st).names.lookup y.1 = some .local ∨ ((defScope st).names.lookup y.1 = some .cell ∧ ((cellsFrom (s.heap.objs.size + 1) (defScope st).names []).lookup y.1).isSome = true) := by
    rintro ⟨y, z⟩ hy
    have := Sc.par y (List.of_mem_zip hy).1
    exact this.elim Or.inl fun c => Or.inr ⟨c, PySem.W.cellsFrom_some _ _ _ (.inl c)⟩
  refine codeAny_call_function room.depth (KX _ _ lk) rfl Sc.co Sc.gen rfl (PySem.W.codeRec_of KX hcd) (binds _ _ _ _ ?_)
  refine wpAny_newFunctionEnv_cells Sc.kind kinds fun env he s1 inside => ?_
  subst he
  refine ⟨(e0.mod.nolimit.keeps there).keeps inside.toInCall.keep, codeAny_func ?_⟩
  obtain ⟨t, ht, hq⟩ := body cdv A outer s H vs Q E (room.deeper _) want
  refine wpAny_mono (ht.run [] s1 (L2.start N vs) H _ (L2H.inv_startH Sc pin e0 (len _ _ _ _ want) rel inside) hq) (fun fl s' got => ?_) fun _ _ z => z
  cases fl with
  | ret u =>
    obtain ⟨v, σ', H', J, rv, done⟩ := got
    exact ⟨v, H', J.os, J.bare, J.base, J.hok, rv, done⟩
  | next =>
    obtain ⟨σ', H', J, done⟩ := got
    exact ⟨.non, H', J.os, J.bare, J.base, J.hok, rfl, done⟩
  | brk => obtain ⟨_, _, _, z⟩ := got; exact z.elim
  | cont => obtain ⟨_, _, _, z⟩ := got; exact z.elim
def spE (K : PySem.W.Frag) (cl : Str → Addr) (a : Addr) (r : Store → Res D) : Sp := fun vs H Q E => vs = [.ref a] ∧ ∃ w S, Ok K cl w S H ∧ Post K cl (fun c d _ H => E c d H) [] (R K) w H (r S) Q
def startX (n : Nat) (a : Addr) : BW.Env := some (.adr a) :: List.replicate (n - 1) none
def mOfE (n : Nat) (a : Addr) (g : Stm) : Store → Res D := fun S => match g (startX n a) S with
  | .next _ S' => .ok .non S'
  | .ret d S' => .ok d S'
  | .err c _ S' => .err c S'
  | _ => .bad
theorem startX_get {N : List Str} {a : Addr} {i : Nat} {s : Slot} (h : (startX N.length a)[i]? = some (some s)) : i = 0 ∧ s = .adr a := by
  unfold startX at h
  cases i with
  | zero => cases h; exact ⟨rfl, rfl⟩
  | succ i =>
    rw [List.getElem?_cons_succ, List.getElem?_replicate] at h
    split at h <;> cases h
theorem Fun.fnE {x qual : Str} {st : Stmt} {bd : List Stmt} {sc : Scope} {f : Addr} {fd : FuncData} {N : List Str} {y : Str} {k n : Nat} {p : Addr × Obj} {g : Stm} (F : Fun K x qual st f fd) (hn : N.length = n) (hsc : defScope st = sc) (hbd : defBody st = bd) (Sc : FnScope N [y] sc)
    (body : ∀ (cdv : Value) (A : Around) (outer : List PySem.Env) (s : Shared) (H : Hp) (E : XK) (e : Pt), L2H.RoomH k (A.deeper (envOfC qual sc s.heap.objs.size f cdv)) →
      DSs (L2H.cxH (L2.CX P w) P w K mg base N qual sc f cdv A outer s H E p) cl e (WOf E) bd g) : FnE P w K mg base (k + 1) f fd [y] p (spE K cl p.1 (mOfE n p.1 g)) := by
  subst hsc hbd hn
  have hpos : 0 < N.length := by
    have := congrArg List.length Sc.pre
    rw [List.length_take] at this
    simp only [List.length_cons, List.length_nil] at this
    omega
  refine FnE.of F Sc (fun vs H Q E h => by rw [h.1]; rfl) (fun cdv A outer s H vs Q E hr h => ?_)
  obtain ⟨rfl, u, S, o, q⟩ := h
  refine ⟨_, body cdv A outer s H E ⟨u, H⟩ hr, u, startX N.length p.1, S, ⟨Ext.refl _ _, o, ⟨?_, fun i sl hs => ?_, fun i j sl t v _ hs _ os => ?_⟩, fun i sl a hs os => ?_⟩, ?_⟩
  · unfold L2.start startX
    simp
  · obtain ⟨rfl, rfl⟩ := startX_get hs
    exact ⟨.ref p.1, rfl, rfl⟩
  · obtain ⟨rfl, rfl⟩ := startX_get hs
    cases os
  · obtain ⟨rfl, rfl⟩ := startX_get hs
    cases os
  · unfold mOfE at q
    cases hg : g (startX N.length p.1) S with
    | next ρ S' => rw [hg] at q; exact fun w' σ' H' _ fs => q w' .non H' fs.ext fs.ok .non
    | ret d S' => rw [hg] at q; exact fun w' v H' _ x o' rv => q w' v H' x o' rv
    | err c ρ S' => rw [hg] at q; exact fun w' σ' H' _ fs => q w' H' fs.ext fs.ok
    | brk ρ S' => rw [hg] at q; exact q.elim
    | cont ρ S' => rw [hg] at q; exact q.elim
    | bad => rw [hg] at q; exact q.elim
end
end BW
namespace BW
open PySem PySem.Spec PyProof.Rows L2
/-! ### the handled error handed on -/
/-- a def that takes it: what it gives by the error's class -/
structure DfE (P : Program) (w : World) (K : PySem.W.Frag) (mg : Str → Option Value) (base : Heap) (cl : Str → Addr) (k : Nat) (x y : Str) (cs : List Str) (m : Str → Store → Res D) : Prop where
  ex : ∃ f fd, (∀ c ∈ cs, ∀ p : Addr × Obj, Zc (.ref (cl c)) none p.2 → (∃ vs, p.2.data = .fields vs) → FnE P w K mg base k f fd [y] p (spE K cl p.1 (m c))) ∧ mg x = some (.ref f) ∧ PySem.W.keepIn K (.ref f) = true ∧ Binds K fd [y] []
section
variable {X : Cx} {cl : Str → Addr} {W : WX} {e : Pt}
theorem de_callE {k j i : Nat} {x y n c : Str} {cs : List Str} {m : Str → Store → Res D} {a : Addr} {oe : Obj} {q p3 pos : Pos} (G : DfE X.prog X.w X.K X.mg X.base cl k x y cs m) (hc : c ∈ cs) (hz : Zc (.ref (cl c)) none oe) (hf : ∃ vs, oe.data = .fields vs) (hp : (a, oe) ∈ X.pn) (hr : L2H.RoomH j X.A) (hj : k ≤ j) (hg : Gl X x) (tk : Takes X W) (hv : PE X (.Name n p3) (tVar i))
    (hdb : (x == ("__debug__" : Str)) = false := by decide) (he : starEach [Expr.Name n p3] X.env = (false, eval (.Name n p3) X.env) :: starEach [] X.env := by rfl) (hpl : (backTo pos (starEach [] X.env)).any (·.1) = false := by rfl) :
    DE X cl W (.Call (.Name x q) [.Name n p3] [] pos) (fAt i a (m c)) := by
  obtain ⟨f, fd, F0, hm, hk, hb⟩ := G.ex
  have F := F0 c hc (a, oe) hz hf
  have ha : PA X [.Name n p3] (tCons (tVar i) tNil) := pa_cons hv pa_nil he
  refine ⟨fun pins s σ H Q I h => ?_⟩
  obtain ⟨w, ρ, S, o, en, po⟩ := h
  obtain ⟨h1, h2⟩ := fAt_inv (P := fun r => Post X.K cl W σ (R X.K) w H r Q) en (fun z => z) po
  refine wpAny_Call_Name_kw (ld_glob I hg hm ?_ hdb)
  have hrun := ha.run pos pins s σ H (fun vs H1 => vs = [V.ref a] ∧ H1 = H) I ⟨.ref a, h1, rfl, rfl⟩
  refine PySem.W.callWith_K (h₀ := X.base) I.ok.mod.kin hk (thn hrun fun us s1 ⟨vs, H1, I1, rel, ev, eH⟩ => ⟨I1.kIn, ?_⟩) he hpl
  subst ev eH
  have bt := hb s1 us I1.kIn (by rw [List.append_nil, ← rel.length]; rfl)
  rw [List.append_nil] at bt
  have pn := I1.pin (a, oe) (List.mem_append_left _ hp)
  have hpin : L2H.PinOk X.stack H1 s1 (a, oe) := ⟨pn.1, pn.2.1, fun hm => (List.mem_cons.mp (I1.stkSub a hm)).elim pn.2.2.1 pn.2.2.2.1, pn.2.2.2.2⟩
  have go := F.run X.A X.stack s1 H1 ⟨us, []⟩ us _ Q (WE W σ) (hr.mono hj) hpin I1.env0 bt rel ⟨rfl, w, S, o, Post.w h2 fun _ _ z => z⟩
  refine wpAny_call (codeAny_mono go fun r s' got => ?_)
  match r, got with
  | .error u, got => exact passAt tk σ pins H1 s1 u s' I1 got
  | .ok (.ret u), got => exact I1.after got

/-! ### try: body, except x as n: return ex -/
theorem Fs.setN {K : PySem.W.Frag} {σ : L2.St} {H : Hp} {w : Wd} {ρ : BW.Env} {S : Store} {i : Nat} {v : V} {s : Slot} (f : Fs K cl e σ H w ρ S) (so : s.isOwn = false) (ok : SlotOk K w H s v) : Fs K cl e (σ.set i (some v)) H w (ρ.set i (some s)) S := by
  have no : ∀ {t : Slot}, (ρ.set i (some s))[i]? = some (some t) → t.isOwn = true → False := fun {t} ht ot => by
    by_cases hj : i < ρ.length
    · rw [List.getElem?_set_self hj] at ht; cases ht; rw [so] at ot; cases ot
    · rw [List.getElem?_eq_none (by simpa using Nat.le_of_not_lt hj)] at ht; cases ht
  refine ⟨f.ext, f.ok, ⟨by simp [f.env.len], fun j t ht => ?_, fun j l t t' u hjl hs ht os ot hj hl => ?_⟩, fun j t b hs os hj => ?_⟩
  · by_cases ej : j = i
    · subst ej
      have hj : j < ρ.length := by simpa using (List.getElem?_eq_some_iff.mp ht).1
      rw [List.getElem?_set_self hj] at ht
      cases ht
      exact ⟨v, by rw [List.getElem?_set_self (by rw [f.env.len]; exact hj)], ok⟩
    · rw [List.getElem?_set_ne (Ne.symm ej)] at ht ⊢
      exact f.env.slot j t ht
  · by_cases ej : j = i
    · subst ej; exact no hs os
    · by_cases el : l = i
      · subst el; exact no ht ot
      · rw [List.getElem?_set_ne (Ne.symm ej)] at hs hj
        rw [List.getElem?_set_ne (Ne.symm el)] at ht hl
        exact f.env.sep j l t t' u hjl hs ht os ot hj hl
  · by_cases ej : j = i
    · subst ej; exact (no hs os).elim
    · rw [List.getElem?_set_ne (Ne.symm ej)] at hs hj
      exact f.fr j t b hs os hj
def sTry (gb : Stm) (i : Nat) (cs : List Str) (FE : Str → BW.Env → Store → Res D) : Stm := fun ρ S => match gb ρ S with
  | .err c ρ' S' => if i < ρ'.length ∧ c ∈ cs then Out.of (noErr (FE c (ρ'.set i none) S')) ρ' fun d S1 => .ret d S1 else .bad
  | o => o
theorem ds_try {i : Nat} {x n : Str} {c : Value} {cs : List Str} {body : List Stmt} {ex : Expr} {np rp pos' pos : Pos} {gb : Stm} {fe : Addr → Str → BW.Env → Store → Res D} {FE : Str → BW.Env → Store → Res D}
    (hb : ∀ (W : WX) (pn : List (Addr × Obj)) (xe : Value → Shared → Prop), Takes (X.tr pn xe) W → PassesOwn (model X.prog X.w) X.A X.env xe → DSs (X.tr pn xe) cl e W body gb)
    (hsu : ∀ (a : Addr) (oe : Obj) (k : Str) (pn : List (Addr × Obj)), k ∈ cs → Zc (.ref (cl k)) none oe → (∃ vs, oe.data = .fields vs) → DE (X.suite a ((a, oe) :: pn)) cl W0 ex (fe a k))
    (hfe : ∀ (a : Addr) (k : Str) (ρ : BW.Env) (S : Store), i < ρ.length → k ∈ cs → fe a k (ρ.set i (some (.adr a))) S = FE k (ρ.set i none) S)
    (hex : ∀ k ∈ cs, PySem.W.exmOne X.K (.ref (cl k)) c = some true)
    (hs : X.stack = X.env :: X.outer) (hf : X.env.frame = some X.env.locals) (hN : X.N.Nodup) (hi : X.N[i]? = some n) (hln : X.env.kindOf n = some .local) (hc : Names X x c) :
    DS X cl e W (.Try body [.ExceptHandler (some (.Name x np)) (some n) [.Return (some ex) rp] pos'] [] [] pos) (sTry gb i cs FE) := by
  refine PS.imp (ps_try_as (X := X) (Wout := W0) (tb := fun W' => tSt X.K cl e W' gb) (ts := fun a cls d Z σ H => ∃ k, k ∈ cs ∧ cls = .ref (cl k) ∧ d = none ∧ tSt X.K cl e W0 (sRet (fe a k)) Z σ H) hs hf hN hi hln hc takes0 hb (fun a oe cls d pn hz hv => ?_)) fun Z σ H h => ?_
  · refine ⟨fun pins s σ H Z I ⟨k, hk, e1, e2, t⟩ => ?_⟩
    subst e1 e2
    exact (dss_one (ds_ret (hsu a oe k pn hk hz hv))).run pins s σ H Z I t
  · obtain ⟨w, ρ, S, fs, p⟩ := h
    refine ⟨w, ρ, S, fs, ?_⟩
    unfold sTry at p
    cases hg : gb ρ S with
    | next ρ1 S1 => rw [hg] at p; exact p
    | ret d S1 => rw [hg] at p; exact p
    | brk ρ1 S1 => rw [hg] at p; exact p
    | cont ρ1 S1 => rw [hg] at p; exact p
    | bad => rw [hg] at p; exact p
    | err k ρ1 S1 =>
      rw [hg] at p
      dsimp only at p
      split at p
      · rename_i hh
        intro w1 σ1 H1 l1 f1
        refine ⟨true, hex k hh.2, fun _ a ha => ⟨k, hh.2, rfl, rfl, w1, ρ1.set i (some (.adr a)), S1, f1.setN rfl rfl, ?_⟩, fun z => nomatch z⟩
        unfold sRet
        rw [hfe a k ρ1 S1 hh.1 hh.2]
        cases hF : FE k (ρ1.set i none) S1 with
        | bad => rw [hF] at p; exact p
        | err c' S2 => rw [hF] at p; exact p.elim
        | ok d S2 =>
          rw [hF] at p
          exact fun w2 v H2 l2 e2 o2 r2 => p w2 v H2 (l1.trans l2) e2 o2 r2
      · exact p.elim
/-! ### count and index of truths -/
theorem mt_count : MtR X "list.count" (fun x xs H Q => ∃ (a : Addr) (ys : List V) (y : V), x = V.ref a ∧ xs = [y] ∧ SqL X.K H a ys ∧ flatV y = true ∧ ys.all flatV = true ∧ Q (.int ((ys.countP fun z => eqV z y : Nat) : Int)) H) := by
  intro pins s σ H x xs v us Q I rx rxs h
  obtain ⟨a, ys, y, rfl, rfl, hs, fy, fys, q⟩ := h
  cases rx
  match us, rxs with
  | [uy], .cons ry .nil =>
    obtain ⟨its, rv, ⟨⟨cls, dd, data, sl⟩, n, ho, hc, hdn, hd⟩, hlen⟩ := I.list hs
    simp only at hc hd
    subst hc hd
    have cnt : its.countP (eqU y) = ys.countP fun z => eqV z y := by
      clear ho hlen hs q hdn
      induction rv with
      | nil => rfl
      | cons r t ih =>
        rw [List.all_cons, Bool.and_eq_true] at fys
        rw [List.countP_cons, List.countP_cons, ih fys.2, eqU_of r fys.1]
    refine call_meets PySem.F.slot_list_count ⟨_, ho, rfl⟩ PySem.F.entry_list_count (PySem.F.args_list_count_2 _ _) (SeqAt.list_countAt a its.toArray n dd sl uy (eqU y)) ⟨ho, fun u' hu' => mem_eqAt ry fy rv fys u' (by simpa using hu'), ?_⟩
    refine ⟨.int _, H, I.kept (t' := _) fun _ _ z => z, ⟨_, rfl⟩, ?_⟩
    simpa [cnt] using q
def fMt (g : List D → List D → Store → Option D) (fo : BW.Env → Store → Res D) (fa : BW.Env → Store → Res (List D)) : BW.Env → Store → Res D := fun ρ S => (fo ρ S).bind fun d S1 => match d with
  | .lst l => (fa ρ S1).bind fun ds S2 => Res.of S2 (g l ds S2)
  | _ => .bad
def gCountT : List D → List D → Store → Option D
  | l, [.bl b], _ => (bools? l).map fun bs => .int ((bs.countP (· == b) : Nat) : Int)
  | _, _, _ => none
def gIndexT : List D → List D → Store → Option D
  | l, [.bl b], _ => (bools? l).bind fun bs => (bs.findIdx? (· == b)).map fun j => .int (j : Nat)
  | _, _, _ => none
theorem flat_bools (bs : List Bool) : (bs.map V.bl).all flatV = true := by
  rw [List.all_map]; exact List.all_eq_true.mpr fun _ _ => rfl
theorem eqV_bl (a b : Bool) : eqV (.bl a) (.bl b) = (a == b) := by cases a <;> cases b <;> rfl
section
variable {o ex : Expr} {apos cpos : Pos} {fo : BW.Env → Store → Res D} {fa : BW.Env → Store → Res (List D)}
theorem de_count (ho : DE X cl W o fo) (ha : DA X cl W [ex] fa) (hbase : attributeBase o "count" X.env (eval o X.env) = eval o X.env := by rfl)
    (hfew : ((backTo cpos (starEach [ex] X.env)).all (fun x => !x.1) && (backToKw cpos (keywordEach [] X.env)).all (fun x => x.1.isSome) && decide (([ex] : List Expr).length + ([] : List Keyword).length + (if ([] : List Keyword).isEmpty then 0 else 1) < 30)) = true := by rfl)
    (hline : (apos.endLine == cpos.line) = true := by rfl) (hs : starEach [ex] X.env = (false, eval ex X.env) :: starEach [] X.env := by rfl) (hplain : (backTo cpos (starEach [] X.env)).any (·.1) = false := by rfl) :
    DE X cl W (.Call (.Attribute o "count" apos) [ex] [] cpos) (fMt gCountT fo fa) := by
  refine PE.imp (pe_bm PySem.F.plainAttrs_list PySem.F.slot_list_count PySem.F.type_list_count mt_count ho ha hbase hfew hline hs hplain) fun σ H Q ⟨w, ρ, S, o, n, p⟩ => ?_
  refine tG.at o n (Post.bind p fun d S1 w1 v H1 e1 o1 r1 p1 => ?_)
  cases d with
  | lst l =>
    obtain ⟨a, vs, rfl, ha, ra⟩ := r1.lst_inv
    refine ⟨.inl ⟨rfl, vs, o1.sqL ha⟩, tG.at o1 (n.mono e1) (Post.bind p1 fun ds S2 w2 us H2 e2 o2 r2 p2 => ?_)⟩
    unfold gCountT at p2
    split at p2
    · rename_i b
      obtain ⟨u, rfl, ru⟩ := ra1 r2
      cases ru
      cases hb : bools? l with
      | none => rw [hb] at p2; exact p2.elim
      | some bs =>
        rw [hb] at p2
        have ev := bools_ra ra hb
        subst ev
        refine ⟨a, bs.map .bl, .bl b, rfl, rfl, (o2.sqL (e2.le.F _ _ ha)), rfl, flat_bools bs, ?_⟩
        rw [List.countP_map, show ((fun z => eqV z (.bl b)) ∘ V.bl) = (· == b) from funext fun z => eqV_bl z b]
        exact p2.here o2 (.int _)
    · exact p2.elim
  | _ => exact p1.elim
theorem de_index (ho : DE X cl W o fo) (ha : DA X cl W [ex] fa) (hbase : attributeBase o "index" X.env (eval o X.env) = eval o X.env := by rfl)
    (hfew : ((backTo cpos (starEach [ex] X.env)).all (fun x => !x.1) && (backToKw cpos (keywordEach [] X.env)).all (fun x => x.1.isSome) && decide (([ex] : List Expr).length + ([] : List Keyword).length + (if ([] : List Keyword).isEmpty then 0 else 1) < 30)) = true := by rfl)
    (hline : (apos.endLine == cpos.line) = true := by rfl) (hs : starEach [ex] X.env = (false, eval ex X.env) :: starEach [] X.env := by rfl) (hplain : (backTo cpos (starEach [] X.env)).any (·.1) = false := by rfl) :
    DE X cl W (.Call (.Attribute o "index" apos) [ex] [] cpos) (fMt gIndexT fo fa) := by
  refine PE.imp (pe_bm PySem.F.plainAttrs_list PySem.F.slot_list_index PySem.F.type_list_index mt_index ho ha hbase hfew hline hs hplain) fun σ H Q ⟨w, ρ, S, o, n, p⟩ => ?_
  refine tG.at o n (Post.bind p fun d S1 w1 v H1 e1 o1 r1 p1 => ?_)
  cases d with
  | lst l =>
    obtain ⟨a, vs, rfl, ha, ra⟩ := r1.lst_inv
    refine ⟨.inl ⟨rfl, vs, o1.sqL ha⟩, tG.at o1 (n.mono e1) (Post.bind p1 fun ds S2 w2 us H2 e2 o2 r2 p2 => ?_)⟩
    unfold gIndexT at p2
    split at p2
    · rename_i b
      obtain ⟨u, rfl, ru⟩ := ra1 r2
      cases ru
      cases hb : bools? l with
      | none => rw [hb] at p2; exact p2.elim
      | some bs =>
        rw [hb] at p2
        have ev := bools_ra ra hb
        subst ev
        cases hj : bs.findIdx? (· == b) with
        | none => simp only [Option.bind_some, hj] at p2; exact p2.elim
        | some j =>
          simp only [Option.bind_some, hj, Option.map_some] at p2
          obtain ⟨hlt, hyes, hno⟩ := List.findIdx?_eq_some_iff_getElem.mp hj
          refine ⟨a, bs.map .bl, .bl b, j, .bl bs[j], rfl, rfl, (o2.sqL (e2.le.F _ _ ha)), rfl, flat_bools bs, by simp [hlt], by rw [eqV_bl]; exact hyes, fun m z' hm hz => ?_, p2.here o2 (.int _)⟩
          rw [List.getElem?_map, List.getElem?_eq_getElem (Nat.lt_trans hm hlt)] at hz
          cases hz
          rw [eqV_bl]
          simpa using hno m hm
    · exact p2.elim
  | _ => exact p1.elim
end
end
end BW
namespace BW
open PySem PySem.Spec PyProof.Rows L2
/-! ### instances -/
section
variable {K : PySem.W.Frag} {w : Wd}
theorem RF.look {f : Str} : ∀ {vs : List (Str × V)} {ds : List (Str × D)} {d : D}, RF K w vs ds → ds.lookup f = some d → ∃ v, vs.lookup f = some v ∧ R K w v d
  | _, _, _, .nil, e => by cases e
  | _, _, _, .cons (k := k) (vs := vs) (ds := ds) r t, e => by
    rw [List.lookup_cons] at e ⊢
    cases hk : f == k with
    | true => rw [hk] at e; cases e; exact ⟨_, rfl, r⟩
    | false => rw [hk] at e; exact RF.look t e
theorem RF.lookN {f : Str} : ∀ {vs : List (Str × V)} {ds : List (Str × D)}, RF K w vs ds → ds.lookup f = none → vs.lookup f = none
  | _, _, .nil, _ => rfl
  | _, _, .cons (k := k) r t, e => by
    rw [List.lookup_cons] at e ⊢
    cases hk : f == k with
    | true => rw [hk] at e; cases e
    | false => rw [hk] at e; exact RF.lookN t e
theorem RF.length : ∀ {vs : List (Str × V)} {ds : List (Str × D)}, RF K w vs ds → vs.length = ds.length
  | _, _, .nil => rfl
  | _, _, .cons _ t => by simp [RF.length t]
def putFD (f : Str) (v : D) : List (Str × D) → List (Str × D)
  | [] => [(f, v)]
  | (g, x) :: r => if g = f then (g, v) :: r else (g, x) :: putFD f v r
theorem RF.put {f : Str} {v : V} {d : D} (h : R K w v d) : ∀ {vs : List (Str × V)} {ds : List (Str × D)}, RF K w vs ds → RF K w (putF f v vs) (putFD f d ds)
  | _, _, .nil => .cons h .nil
  | _, _, .cons (k := k) r t => by
    unfold putF putFD
    split
    · exact .cons h t
    · exact .cons r (RF.put h t)
theorem Ok.put {cl : Str → Addr} {S : Store} {H : Hp} {i : Nat} {c c' : Cell} {o : HO} (k : Ok K cl w S H) (hi : S[i]? = some c) (new : CellOk K cl w (upd H (w.k i) o) (w.k i) c') : Ok K cl w (S.set i c') (upd H (w.k i) o) ∧ Ext w H w (upd H (w.k i) o) := by
  have il : i < S.length := (List.getElem?_eq_some_iff.mp hi).1
  have iw : i < w.n := by rw [k.len]; exact il
  obtain ⟨nf, co⟩ := k.cell i c hi
  refine ⟨⟨by simp [k.len], fun a u e => ?_, fun j d hj => ?_, k.inj⟩, ⟨Nat.le_refl _, fun _ _ => rfl, Same.refl _, fun a u e hk => ?_, fun a u e => ?_, fun a u e => .inl e, fun j h1 h2 => absurd (Nat.lt_of_lt_of_le h2 h1) (Nat.lt_irrefl _)⟩⟩
  · have : a ≠ w.k i := fun z => by rw [z, nf] at e; cases e
    rw [upd_ne this]; exact k.sub a u e
  · by_cases e : j = i
    · subst e
      rw [List.getElem?_set_self il] at hj
      cases hj
      exact ⟨nf, new⟩
    · rw [List.getElem?_set_ne (Ne.symm e)] at hj
      obtain ⟨nf', co'⟩ := k.cell j d hj
      have jl : j < S.length := (List.getElem?_eq_some_iff.mp hj).1
      have ne : w.k j ≠ w.k i := fun z => e (k.inj j i (by rw [k.len]; exact jl) iw z)
      exact ⟨nf', co'.mono (Le.refl _) fun u hu => by rw [upd_ne ne]; exact hu⟩
  · rw [upd_ne (Ne.symm (hk i iw))]; exact e
  · by_cases z : a = w.k i
    · subst z; exact ⟨_, upd_same⟩
    · exact ⟨u, by rw [upd_ne z]; exact e⟩
end
/-- a class of the text, its instances' fields -/
structure ClsOk (K : PySem.W.Frag) (cl : Str → Addr) (c : Str) (fs : List Str) : Prop where
  cls : Cls K (cl c)
  no : ∀ f ∈ fs, NoAttr K (cl c) f
def insAt (c : Str) (d : D) (S : Store) : Option (Nat × List (Str × D)) := match d with
  | .ref i => match S[i]? with
    | some (.ins c' fs) => if c' = c then some (i, fs) else none
    | _ => none
  | _ => none
theorem insAt_inv {c : Str} {d : D} {S : Store} {i : Nat} {fs : List (Str × D)} (h : insAt c d S = some (i, fs)) : d = .ref i ∧ S[i]? = some (.ins c fs) := by
  unfold insAt at h
  split at h
  · split at h
    · split at h
      · rename_i e
        cases h
        subst e
        exact ⟨rfl, by assumption⟩
      · cases h
    · cases h
  · cases h
def fFld (c f : Str) (fo : BW.Env → Store → Res D) : BW.Env → Store → Res D := fun ρ S => (fo ρ S).bind fun d S1 => match insAt c d S1 with
  | some (_, fs) => Res.of S1 (fs.lookup f)
  | none => .bad
def sFldSet (c f : Str) (fo fv : BW.Env → Store → Res D) : Stm := fun ρ S => Out.of (fv ρ S) ρ fun y S1 => Out.of (fo ρ S1) ρ fun d S2 => match insAt c d S2 with
  | some (i, fs) => if fs.length < 1000 then .next ρ (S2.set i (.ins c (putFD f y fs))) else .bad
  | none => .bad
def fMeth (c mn : Str) (n : Nat) (m : List D → Store → Res D) (fo : BW.Env → Store → Res D) (fa : BW.Env → Store → Res (List D)) : BW.Env → Store → Res D := fun ρ S => (fo ρ S).bind fun d S1 => match insAt c d S1 with
  | some (_, fs) => if fs.lookup mn = none then (fa ρ S1).bind fun ds S2 => if (d :: ds).length = n then m (d :: ds) S2 else .bad else .bad
  | none => .bad
structure DfM (P : Program) (w : World) (K : PySem.W.Frag) (mg : Str → Option Value) (base : Heap) (cl : Str → Addr) (k : Nat) (c mn : Str) (ps : List Str) (m : List D → Store → Res D) : Prop where
  ex : ∃ f fd, FnOk P w K mg base (L2.CX P w) k f fd ps (spM K cl ps.length m) ∧ Meth K (cl c) mn f ∧ Binds K fd ps []
section
variable {X : Cx} {cl : Str → Addr} {W : WX} {e : Pt}
theorem de_fld {c f : Str} {fs : List Str} {ex : Expr} {pos : Pos} {fo : BW.Env → Store → Res D} (C : ClsOk X.K cl c fs) (hf : f ∈ fs) (h : DE X cl W ex fo) (hb : attributeBase ex f X.env (eval ex X.env) = eval ex X.env := by rfl) : DE X cl W (.Attribute ex f pos) (fFld c f fo) := by
  refine PE.imp (pe_fld h hb) fun σ H Q ⟨w, ρ, S, o, n, p⟩ => tG.at o n (Post.bind p fun d S1 w1 v H1 e1 o1 r1 p1 => ?_)
  split at p1
  · rename_i i gs hi
    obtain ⟨rfl, hs⟩ := insAt_inv hi
    obtain ⟨rfl, _⟩ := r1.ref_inv
    obtain ⟨_, dx, vs, ha, rf⟩ := o1.cell i _ hs
    cases hl : gs.lookup f with
    | none => rw [hl] at p1; exact p1.elim
    | some d =>
      rw [hl] at p1
      obtain ⟨u, hu, ru⟩ := rf.look hl
      exact ⟨_, _, dx, vs, u, rfl, ha, C.cls, C.no f hf, hu, p1.here o1 ru⟩
  · exact p1.elim
theorem ds_fld {c f : Str} {fs : List Str} {o v : Expr} {p1 pos : Pos} {fo fv : BW.Env → Store → Res D} (C : ClsOk X.K cl c fs) (hf : f ∈ fs) (ho : DE X cl W o fo) (hv : DE X cl W v fv) (hs : swapsWith v (some (.Attribute o f p1)) pos.line X.env = pure false := by rfl) :
    DS X cl e W (.Assign [.Attribute o f p1] v pos) (sFldSet c f fo fv) := by
  refine PS.imp (ps_fld ho hv hs) fun Z σ H ⟨w, ρ, S, fs0, p⟩ => ?_
  refine fs0.tG (PostS.expr p fs0 fun y S1 w1 u H1 e1 f1 r1 p1 => f1.tG (PostS.expr p1 f1 fun d S2 w2 x H2 e2 f2 r2 p2 => ?_))
  split at p2
  · rename_i i gs hi
    split at p2
    · rename_i hlen
      obtain ⟨rfl, hs2⟩ := insAt_inv hi
      obtain ⟨rfl, _⟩ := r2.ref_inv
      obtain ⟨_, dx, vs, ha, rf⟩ := f2.ok.cell i _ hs2
      refine ⟨_, _, dx, vs, rfl, ha, C.cls, C.no f hf, by rw [rf.length]; exact hlen, ?_⟩
      obtain ⟨o3, e3⟩ := f2.ok.put (c' := .ins c (putFD f y gs)) (o := .ins (cl c) dx (putF f u vs)) hs2 ⟨dx, _, upd_same, rf.put (r1.mono e2.le)⟩
      exact p2 w2 σ _ (Le.refl _) (f2.on e3 o3)
    · exact p2.elim
  · exact p2.elim
theorem pe_methT {pl : Sem Bool} {k : Nat} {f C : Addr} {fd : FuncData} {ps : List Str} {sp : Sp} {E : L2.St → XK} {m : Str} {pos apos : Pos} {ex o : Expr} {es : List Expr} {ta : TE} {t : TA} (he : PE X o ta) (c : Cls X.K C) (hm : Meth X.K C m f) (F : FnOk X.prog X.w X.K X.mg X.base (L2.CX X.prog X.w) k f fd ps sp) (hr : Room k X.A) (hb : Binds X.K fd ps []) (hx : ∀ σ, PassesAt (L2.CX X.prog X.w) X σ (E σ)) (ha : PA X (ex :: es) t)
    (hst : starEach (ex :: es) X.env = (false, eval ex X.env) :: starEach es X.env) (hpl : (backTo pos (starEach es X.env)).any (·.1) = false)
    (ht : eval (.Call (.Attribute o m apos) (ex :: es) [] pos) X.env = (do
      let ov ← eval o X.env
      standAt apos.atName
      let (f, first) ← holding [ov] (getMethod ov m pl)
      callWith pos f first (backTo pos (starEach (ex :: es) X.env)) (backToKw pos (keywordEach [] X.env)))) :
    PE X (.Call (.Attribute o m apos) (ex :: es) [] pos) (L2H.tMethH C m sp E ta t) := by
  refine ⟨fun pins s σ H Q I h => PySem.W.methodCall_KW (pl := pl) (thn (he.run pins s σ H _ I h) fun u s1 got => ?_) ht⟩
  obtain ⟨x, H1, I1, rx, a, dx, fs, rfl, ea, l, q⟩ := got
  obtain rfl : u = Value.ref a := rx
  refine getmeth_ok I1 ea c hm l (PySem.W.callWith_K (first := [.ref a]) (h₀ := X.base) I.ok.mod.kin hm.kp (thn (ha.run pos pins s1 σ H1 _ I1 q) fun us s2 got2 => ?_) hst hpl)
  obtain ⟨vs, H2, I2, r, q2⟩ := got2
  exact ⟨I2.kIn, run_fnSD (ds := []) (dvs := []) (us := .ref a :: us) (vs := .ref a :: vs) (E := E) F hr hb .nil (hx σ) I2 (.cons rfl r) (by rw [List.append_nil]; exact q2)⟩
theorem pe_methT0 {pl : Sem Bool} {k : Nat} {f C : Addr} {fd : FuncData} {ps : List Str} {sp : Sp} {E : L2.St → XK} {m : Str} {pos apos : Pos} {o : Expr} {ta : TE} (he : PE X o ta) (c : Cls X.K C) (hm : Meth X.K C m f) (F : FnOk X.prog X.w X.K X.mg X.base (L2.CX X.prog X.w) k f fd ps sp) (hr : Room k X.A) (hb : Binds X.K fd ps []) (hx : ∀ σ, PassesAt (L2.CX X.prog X.w) X σ (E σ))
    (ht : eval (.Call (.Attribute o m apos) [] [] pos) X.env = (do
      let ov ← eval o X.env
      standAt apos.atName
      let (f, first) ← holding [ov] (getMethod ov m pl)
      callWith pos f first (backTo pos (starEach [] X.env)) (backToKw pos (keywordEach [] X.env)))) :
    PE X (.Call (.Attribute o m apos) [] [] pos) (L2H.tMethH C m sp E ta tNil) := by
  refine ⟨fun pins s σ H Q I h => PySem.W.methodCall_KW (pl := pl) (thn (he.run pins s σ H _ I h) fun u s1 got => ?_) ht⟩
  obtain ⟨x, H1, I1, rx, a, dx, fs, rfl, ea, l, q⟩ := got
  obtain rfl : u = Value.ref a := rx
  refine getmeth_ok I1 ea c hm l (PySem.W.callWith_K0 (first := [.ref a]) I1.kIn hm.kp ?_)
  exact run_fnSD (ds := []) (dvs := []) (us := [.ref a]) (vs := [.ref a]) (E := E) F hr hb .nil (hx σ) I1 (.cons rfl .nil) (by rw [List.append_nil]; exact q)
theorem de_meth {pl : Sem Bool} {k j n : Nat} {c m : Str} {fs ps : List Str} {mm : List D → Store → Res D} {pos apos : Pos} {ex o : Expr} {es : List Expr} {fo : BW.Env → Store → Res D} {fa : BW.Env → Store → Res (List D)} (G : DfM X.prog X.w X.K X.mg X.base cl k c m ps mm) (C : ClsOk X.K cl c fs) (hr : Room j X.A) (hj : k ≤ j) (tk : Takes X W) (ho : DE X cl W o fo) (ha : DA X cl W (ex :: es) fa) (hn : ps.length = n := by rfl)
    (hst : starEach (ex :: es) X.env = (false, eval ex X.env) :: starEach es X.env := by rfl) (hpl : (backTo pos (starEach es X.env)).any (·.1) = false := by rfl)
    (ht : eval (.Call (.Attribute o m apos) (ex :: es) [] pos) X.env = (do
      let ov ← eval o X.env
      standAt apos.atName
      let (f, first) ← holding [ov] (getMethod ov m pl)
      callWith pos f first (backTo pos (starEach (ex :: es) X.env)) (backToKw pos (keywordEach [] X.env))) := by rfl) :
    DE X cl W (.Call (.Attribute o m apos) (ex :: es) [] pos) (fMeth c m n mm fo fa) := by
  subst hn
  obtain ⟨f, fd, F, hm, hb⟩ := G.ex
  refine PE.imp (pe_methT ho C.cls hm F (hr.mono hj) hb (fun σ => passAt tk σ) ha hst hpl ht) fun σ H Q ⟨w, ρ, S, o, n, p⟩ => tG.at o n (Post.bind p fun d S1 w1 v H1 e1 o1 r1 p1 => ?_)
  split at p1
  · rename_i i gs hi
    split at p1
    · rename_i hl
      obtain ⟨rfl, hs⟩ := insAt_inv hi
      obtain ⟨rfl, _⟩ := r1.ref_inv
      obtain ⟨_, dx, vs, hc, rf⟩ := o1.cell i _ hs
      refine ⟨_, dx, vs, rfl, hc, rf.lookN hl, tG.at o1 (n.mono e1) (Post.bind p1 fun ds S2 w2 us H2 e2 o2 r2 p2 => ?_)⟩
      split at p2
      · rename_i hlen
        exact ⟨w2, S2, _, o2, .cons (r1.mono e2.le) r2, hlen, Post.w p2 fun _ _ z => z⟩
      · exact p2.elim
    · exact p1.elim
  · exact p1.elim
theorem de_meth0 {pl : Sem Bool} {k j n : Nat} {c m : Str} {fs ps : List Str} {mm : List D → Store → Res D} {pos apos : Pos} {o : Expr} {fo : BW.Env → Store → Res D} (G : DfM X.prog X.w X.K X.mg X.base cl k c m ps mm) (C : ClsOk X.K cl c fs) (hr : Room j X.A) (hj : k ≤ j) (tk : Takes X W) (ho : DE X cl W o fo) (hn : ps.length = n := by rfl)
    (ht : eval (.Call (.Attribute o m apos) [] [] pos) X.env = (do
      let ov ← eval o X.env
      standAt apos.atName
      let (f, first) ← holding [ov] (getMethod ov m pl)
      callWith pos f first (backTo pos (starEach [] X.env)) (backToKw pos (keywordEach [] X.env))) := by rfl) :
    DE X cl W (.Call (.Attribute o m apos) [] [] pos) (fMeth c m n mm fo fNil) := by
  subst hn
  obtain ⟨f, fd, F, hm, hb⟩ := G.ex
  refine PE.imp (pe_methT0 ho C.cls hm F (hr.mono hj) hb (fun σ => passAt tk σ) ht) fun σ H Q ⟨w, ρ, S, o, n, p⟩ => tG.at o n (Post.bind p fun d S1 w1 v H1 e1 o1 r1 p1 => ?_)
  split at p1
  · rename_i i gs hi
    split at p1
    · rename_i hl
      obtain ⟨rfl, hs⟩ := insAt_inv hi
      obtain ⟨rfl, _⟩ := r1.ref_inv
      obtain ⟨_, dx, vs, hc, rf⟩ := o1.cell i _ hs
      refine ⟨_, dx, vs, rfl, hc, rf.lookN hl, ?_⟩
      unfold fNil at p1
      simp only [bind_ok] at p1
      split at p1
      · rename_i hlen
        exact ⟨w1, S1, _, o1, .cons r1 .nil, hlen, Post.w p1 fun _ _ z => z⟩
      · exact p1.elim
    · exact p1.elim
  · exact p1.elim
end
end BW
namespace BW
open PySem PySem.Spec PyProof.Rows L2
section
variable {X : Cx} {cl : Str → Addr} {W : WX} {e : Pt}
/-! ### in, not in of dicts -/
def gInX (neg : Bool) : D → D → Store → Option D := fun d x S => match x with
  | .dic kvs => (keyD d).map fun k => .bl (xor neg (valD kvs k).isSome)
  | .ref n => match S[n]? with
    | some (.dic kvs) => (keyD d).map fun k => .bl (xor neg (valD kvs k).isSome)
    | _ => none
  | x => gIn neg d x S
theorem op_din (hu : X.A.units + 1 < cLine) : OpR X (compareOp .In) (fun y x H Q => ∃ a o, x = .ref a ∧ DGet H a y o ∧ Q (.bl o.isSome) H) := by
  intro pins s σ H y x u v Q I ry rx ⟨a, o, ex, g, q⟩
  subst ex
  cases rx
  exact d_in hu I g ry fun s' I' => ⟨.bl o.isSome, H, I', rfl, q⟩
theorem op_dnotin (hu : X.A.units + 1 < cLine) : OpR X (compareOp .NotIn) (fun y x H Q => ∃ a o, x = .ref a ∧ DGet H a y o ∧ Q (.bl (!o.isSome)) H) := by
  intro pins s σ H y x u v Q I ry rx ⟨a, o, ex, g, q⟩
  subst ex
  cases rx
  exact d_notIn hu I g ry fun s' I' => ⟨.bl (!o.isSome), H, I', rfl, q⟩
theorem RK.isSome {K : PySem.W.Frag} {w : Wd} {vs : List (Key × V)} {ds : List (Key × D)} (k : Key) (r : RK K w vs ds) : (valV vs k).isSome = (valD ds k).isSome := by
  rcases r.val (k := k) with ⟨h1, h2⟩ | ⟨v, d, h1, h2, _⟩ <;> rw [h1, h2] <;> rfl
/-- reading a dict: its keys -/
theorem dget_of {w : Wd} {S : Store} {H : Hp} {v u : V} {d x z : D} {neg : Bool} (k : Ok X.K cl w S H) (r1 : R X.K w v d) (r2 : R X.K w u x) (hg : gInX neg d x S = some z) (hx : (∃ l, x = .dic l) ∨ ∃ n, x = .ref n) : ∃ a o, u = .ref a ∧ DGet H a v o ∧ z = .bl (xor neg o.isSome) := by
  rcases hx with ⟨l, rfl⟩ | ⟨n, rfl⟩
  · obtain ⟨a, vs, rfl, ha, ra⟩ := r2.dic_inv
    simp only [gInX, Option.map_eq_some_iff] at hg
    obtain ⟨key, hk, rfl⟩ := hg
    refine ⟨a, valV vs key, rfl, .inl ⟨vs, key, Rd.mono k.sub ha, keyD_v r1 hk, rfl⟩, ?_⟩
    rw [ra.isSome]
  · obtain ⟨rfl, hn⟩ := r2.ref_inv
    simp only [gInX] at hg
    split at hg
    · rename_i l hl
      obtain ⟨_, vs, hc, ra⟩ := k.cell n _ hl
      simp only [Option.map_eq_some_iff] at hg
      obtain ⟨key, hk, rfl⟩ := hg
      refine ⟨_, valV vs key, rfl, .inl ⟨vs, key, .inl hc, keyD_v r1 hk, rfl⟩, ?_⟩
      rw [ra.isSome]
    · cases hg
theorem gInX_old {neg : Bool} {d x : D} {S : Store} (h1 : ∀ l, x ≠ .dic l) (h2 : ∀ n, x ≠ .ref n) : gInX neg d x S = gIn neg d x S := by
  cases x <;> first | rfl | exact absurd rfl (h1 _) | exact absurd rfl (h2 _)
theorem o_inX (hu : X.A.units + 65 < cLine) : OpR X (compareOp .In) (r2 X.K cl (gInX false)) := by
  refine of2 (OpR.or (o_in (cl := cl) hu) (op_din (by omega))) fun x y H Q w S d e z k r1 r2 hg q => ?_
  by_cases h : (∃ l, e = .dic l) ∨ ∃ n, e = .ref n
  · obtain ⟨a, o, rfl, g, rfl⟩ := dget_of k r1 r2 hg h
    refine .inr ⟨a, o, rfl, g, ?_⟩
    have := q w _ H (Ext.refl _ _) k (.bl _)
    simpa using this
  · rw [gInX_old (fun l z => h (.inl ⟨l, z⟩)) fun n z => h (.inr ⟨n, z⟩)] at hg
    exact .inl ⟨w, S, d, e, z, k, r1, r2, hg, q⟩
theorem o_notinX (hu : X.A.units + 65 < cLine) : OpR X (compareOp .NotIn) (r2 X.K cl (gInX true)) := by
  refine of2 (OpR.or (o_notin (cl := cl) hu) (op_dnotin (by omega))) fun x y H Q w S d e z k r1 r2 hg q => ?_
  by_cases h : (∃ l, e = .dic l) ∨ ∃ n, e = .ref n
  · obtain ⟨a, o, rfl, g, rfl⟩ := dget_of k r1 r2 hg h
    refine .inr ⟨a, o, rfl, g, ?_⟩
    have := q w _ H (Ext.refl _ _) k (.bl _)
    simpa using this
  · rw [gInX_old (fun l z => h (.inl ⟨l, z⟩)) fun n z => h (.inr ⟨n, z⟩)] at hg
    exact .inl ⟨w, S, d, e, z, k, r1, r2, hg, q⟩

/-! ### new dicts -/
/-- what an expression gives, locked for good -/
theorem PE.lkA {ex : Expr} {t : TE} (h : PE X ex t) : PE X ex (fun σ H Q => t σ H fun v H' => ∃ d u, H' d = some u ∧ Mut (some u) ∧ ∀ od, Q v (upd H' d (.frz od u))) := ⟨fun pins s σ H Q I q => thn (h.run pins s σ H _ I q) fun u s1 ⟨x, H1, I1, r, d, o, hd, mu, q1⟩ => by
  obtain ⟨od, I2⟩ := I1.lock hd mu
  exact ⟨x, _, I2, r, q1 od⟩⟩
theorem upd_upd (H : Hp) (a : Addr) (o o' : HO) : upd (upd H a o) a o' = upd H a o' := by
  funext b
  by_cases h : b = a
  · subst h; rw [upd_same, upd_same]
  · rw [upd_ne h, upd_ne h, upd_ne h]
theorem de_dic0 {pos : Pos} : DE X cl W (.Dict [] [] pos) (fC (.dic [])) := by
  refine PE.imp (PE.lkA pe_dnewK) fun σ H Q ⟨w, ρ, S, o, n, p⟩ q hq => ⟨q, _, upd_same, trivial, fun od => ?_⟩
  rw [upd_upd]
  obtain ⟨e1, o1, r1⟩ := o.layD (q := od) hq .nil
  exact p.okT e1 o1 r1
/-- an own dict, just made -/
def PostD (K : PySem.W.Frag) (cl : Str → Addr) (W : WX) (σ : L2.St) (w : Wd) (H : Hp) (r : Res (List (Key × D))) (Q : VK) : Prop := match r with
  | .ok l S' => ∀ w' a vs H', Ext w H w' H' → Ok K cl w' S' H' → H a = none → H' a = some (.dK vs) → Hid w' a → RK K w' vs l → Q (.ref a) H'
  | .err c S' => ∀ w' H', Ext w H w' H' → Ok K cl w' S' H' → W (.ref (cl c)) none σ H'
  | .bad => False
abbrev DDc (X : Cx) (cl : Str → Addr) (W : WX) (ex : Expr) (f : BW.Env → Store → Res (List (Key × D))) : Prop := PE X ex (fun σ H Q => ∃ w ρ S, Ok X.K cl w S H ∧ EnvR X.K w H σ ρ ∧ PostD X.K cl W σ w H (f ρ S) Q)
def fDict (fa : BW.Env → Store → Res (List D)) : BW.Env → Store → Res (List (Key × D)) := fun ρ S => (fa ρ S).bind fun ds S1 => match ds with
  | [.dic l] => .ok l S1
  | _ => .bad
theorem PostD.bind {K : PySem.W.Frag} {α β : Type} {Rl : Wd → β → α → Prop} {σ : L2.St} {w : Wd} {H : Hp} {r : Res α} {k : α → Store → Res (List (Key × D))} {Q : VK} {Q1 : β → Hp → Prop} (h : PostD K cl W σ w H (r.bind k) Q)
    (hk : ∀ d S1 w1 v H1, Ext w H w1 H1 → Ok K cl w1 S1 H1 → Rl w1 v d → PostD K cl W σ w H (k d S1) Q → Q1 v H1) : Post K cl W σ Rl w H r Q1 := by
  cases r with
  | ok d S => exact fun w1 v H1 e1 o1 r1 => hk d S w1 v H1 e1 o1 r1 h
  | err c S => exact h
  | bad => exact h
theorem dd_dict {p pos : Pos} {a : Expr} {fa : BW.Env → Store → Res (List D)} (ha : DA X cl W [a] fa) (hg : Gl X "dict") (hm : X.mg "dict" = none) (he : starEach [a] X.env = (false, eval a X.env) :: starEach [] X.env := by rfl) (hpl : (backTo pos (starEach [] X.env)).any (·.1) = false := by rfl) :
    DDc X cl W (.Call (.Name "dict" p) [a] [] pos) (fDict fa) := by
  refine PE.imp (pe_callTy call_dictD hg hm (by decide +kernel) ha (he := he) (hpl := hpl)) fun σ H Q ⟨w, ρ, S, o, n, p⟩ => ?_
  refine tG.at o n (PostD.bind p fun ds S1 w1 xs H1 e1 o1 r1 p1 => ?_)
  split at p1
  · obtain ⟨v, rfl, rv⟩ := ra1 r1
    obtain ⟨a, vs, rfl, h1, h2⟩ := rv.dic_inv
    refine ⟨a, vs, rfl, Rd.mono o1.sub h1, fun q hq => ?_⟩
    exact p1 w1 q vs _ (e1.trans ((Ext.refl _ _).mut hq)) (o1.mut (o1.hid hq)) (e1.back hq) upd_same (o1.hid hq) h2
  · exact p1.elim
def sSetOwnD (i : Nat) (f : BW.Env → Store → Res (List (Key × D))) : Stm := fun ρ S => Out.of (f ρ S) ρ fun l S1 => .next (ρ.set i (some (.ownd l))) S1
theorem ds_setOwnD {i : Nat} {x : Str} {ex : Expr} {pos pos' : Pos} {f : BW.Env → Store → Res (List (Key × D))} (hN : X.N.Nodup) (hi : X.N[i]? = some x) (hx : Loc X.env.scope x) (h : DDc X cl W ex f) (hs : swapsWith ex (some (.Name x pos')) pos.line X.env = pure false := by rfl)
    (hf : X.fn x = true ∨ X.env.scope.names.lookup x = some .local := by first | exact .inl rfl | exact .inr rfl | assumption) : DS X cl e W (.Assign [.Name x pos'] ex pos) (sSetOwnD i f) := by
  refine PS.imp (ps_set hN hi hx h hs hf) fun Z σ H ⟨w, ρ, S, fs, p⟩ => ⟨w, ρ, S, fs.ok, fs.env, ?_⟩
  unfold sSetOwnD at p
  cases hf : f ρ S with
  | bad => simp only [hf, Out.of] at p; exact p
  | err c S1 => simp only [hf, Out.of] at p; exact fun w' H' x o => p w' σ H' x.le (fs.on x o)
  | ok l S1 =>
    simp only [hf, Out.of] at p
    intro w1 a vs H1 e1 o1 ha h1 hid ra
    refine p w1 _ H1 e1.le ((fs.on e1 o1).setOwn rfl ⟨a, vs, rfl, h1, ra, hid⟩ (fs.ext.back ha) fun j t hj ht hji hv => ?_)
    obtain ⟨v, hv', so⟩ := fs.env.slot j t hj
    rw [hv] at hv'
    cases hv'
    cases t with
    | dat d => cases ht
    | adr a => cases ht
    | own l2 => obtain ⟨b, us, eb, hb, _⟩ := so; cases eb; rw [ha] at hb; cases hb
    | ownd l2 => obtain ⟨b, us, eb, hb, _⟩ := so; cases eb; rw [ha] at hb; cases hb
def sPutOwnD (i : Nat) (fb fe : BW.Env → Store → Res D) : Stm := fun ρ S => Out.of (fe ρ S) ρ fun d S1 => match ρ[i]? with
  | some (some (.ownd l)) => Out.of (fb ρ S1) ρ fun b S2 => match keyD b with
    | some k => if l.length < LIM then .next (ρ.set i (some (.ownd (putD l k d)))) S2 else .bad
    | none => .bad
  | _ => .bad
theorem ds_putOwnD {i : Nat} {x : Str} {p tpos pos : Pos} {b ex : Expr} {fb fe : BW.Env → Store → Res D} (hu : X.A.units + 1 < cLine) (hv : PE X (.Name x p) (tVar i)) (hb : DE X cl W b fb) (he : DE X cl W ex fe) (hs : swapsWith ex (some (.Subscript (.Name x p) b tpos)) pos.line X.env = pure false := by rfl) :
    DS X cl e W (.Assign [.Subscript (.Name x p) b tpos] ex pos) (sPutOwnD i fb fe) := by
  refine PS.imp (ps_dput hu hv hb he hs) fun Z σ H ⟨w, ρ, S, fs, q⟩ => fs.tG (PostS.expr q fs fun d S1 w1 v H1 e1 f1 r1 p1 => ?_)
  split at p1
  · rename_i l hl
    obtain ⟨u, hu, a, vs, rfl, ha, ra, hid⟩ := f1.env.slot i _ hl
    refine ⟨_, hu, f1.tG (PostS.expr p1 f1 fun b S2 w2 y H2 e2 f2 r2 p2 => ?_)⟩
    have ha2 := e2.keep a _ ha hid.nK
    have hid2 := hid.mono e2 ha
    split at p2
    · rename_i k hk
      split at p2
      · rename_i hlt
        refine ⟨a, _, rfl, .inl ⟨vs, k, ha2, keyD_v r2 hk, lim_lt (by rw [ra.length]; exact hlt), rfl⟩, ?_⟩
        exact p2 w2 σ _ (Le.refl _) (f2.mutOwn hl rfl hu hid2 rfl ⟨a, _, rfl, upd_same, RK.put (r1.mono e2.le) (ra.mono e2.le), hid2⟩)
      · exact p2.elim
    · exact p2.elim
  · exact p1.elim
end
end BW
namespace BW
open PySem PySem.Spec PyProof.Rows L2
/-! ### instances made -/
def Wd.new (w : Wd) (x : Addr) : Wd := { n := w.n + 1, k := fun i => if i = w.n then x else w.k i, F := w.F }
section
variable {K : PySem.W.Frag} {cl : Str → Addr} {w : Wd} {S : Store} {H : Hp}
theorem Le.new (w : Wd) (x : Addr) : Le w (w.new x) := ⟨Nat.le_succ _, fun i hi => by show (if i = w.n then x else w.k i) = _; rw [if_neg (Nat.ne_of_lt hi)], Same.refl _⟩
theorem Ok.made {c : Str} {x dx : Addr} (k : Ok K cl w S H) (hx : H x = none) (hd : H dx = none) (ne : dx ≠ x) :
    Ext w H (w.new x) (upd (upd H dx (.own x)) x (.ins (cl c) dx [])) ∧ Ok K cl (w.new x) (S ++ [.ins c []]) (upd (upd H dx (.own x)) x (.ins (cl c) dx [])) := by
  have old : ∀ a o, H a = some o → upd (upd H dx (.own x)) x (.ins (cl c) dx []) a = some o := fun a o e => by
    rw [upd_ne (ne_of_none e hx), upd_ne (ne_of_none e hd)]; exact e
  have kx : ∀ i, i < w.n → w.k i ≠ x := fun i hi z => by
    obtain ⟨c', hc⟩ : ∃ c', S[i]? = some c' := ⟨S[i]'(by rw [← k.len]; exact hi), by simp [← k.len, hi]⟩
    obtain ⟨o, ho⟩ := (k.cell i _ hc).2.there
    rw [z, hx] at ho; cases ho
  refine ⟨⟨(Le.new w x).n, (Le.new w x).k, Same.refl _, fun a o e _ => old a o e, fun a o e => ⟨o, old a o e⟩, fun a o e => .inl e, fun i h1 h2 => ?_⟩, ⟨?_, fun a o e => ?_, fun i c' hi => ?_, fun i j hi hj e => ?_⟩⟩
  · have h3 : i < w.n + 1 := h2
    have : i = w.n := by omega
    subst this
    show H (if w.n = w.n then x else _) = none
    rw [if_pos rfl]; exact hx
  · show w.n + 1 = _
    simp [k.len]
  · exact old a o (k.sub a o e)
  · by_cases q : i < S.length
    · rw [List.getElem?_append_left q] at hi
      obtain ⟨h1, h2⟩ := k.cell i c' hi
      have e : (w.new x).k i = w.k i := (Le.new w x).k i (by rw [k.len]; exact q)
      rw [e]
      exact ⟨h1, h2.mono (Le.new w x) fun o ho => old _ o ho⟩
    · have il : i = S.length := by
        have := (List.getElem?_eq_some_iff.mp hi).1
        simp at this
        omega
      subst il
      rw [List.getElem?_append_right (Nat.le_refl _), Nat.sub_self] at hi
      cases hi
      have e : (w.new x).k S.length = x := by
        show (if S.length = w.n then x else _) = x
        rw [if_pos k.len.symm]
      rw [e]
      refine ⟨?_, dx, [], upd_same, .nil⟩
      cases hF : w.F x with
      | none => exact hF
      | some o => rw [k.sub _ _ hF] at hx; cases hx
  · have hi' : i < w.n + 1 := hi
    have hj' : j < w.n + 1 := hj
    have e' : (if i = w.n then x else w.k i) = (if j = w.n then x else w.k j) := e
    by_cases a : i = w.n <;> by_cases b : j = w.n
    · omega
    · rw [if_pos a, if_neg b] at e'
      exact absurd e'.symm (kx j (by omega))
    · rw [if_neg a, if_pos b] at e'
      exact absurd e' (kx i (by omega))
    · rw [if_neg a, if_neg b] at e'
      exact k.inj i j (by omega) (by omega) e'
end
section
variable {X : Cx} {cl : Str → Addr} {W : WX} {e : Pt}
structure DfC (P : Program) (w : World) (K : PySem.W.Frag) (mg : Str → Option Value) (base : Heap) (cl : Str → Addr) (k : Nat) (c : Str) (ps : List Str) (m : List D → Store → Res D) : Prop where
  ex : ∃ f fd, Mk K (cl c) f ∧ FnOk P w K mg base (L2.CX P w) k f fd ps (spM K cl ps.length m) ∧ mg c = some (.ref (cl c)) ∧ Binds K fd ps []
def fMake (c : Str) (n : Nat) (m : List D → Store → Res D) (fa : BW.Env → Store → Res (List D)) : BW.Env → Store → Res D := fun ρ S => (fa ρ S).bind fun ds S1 => if ds.length + 1 = n then (m (.ref S1.length :: ds) (S1 ++ [.ins c []])).bind fun r S2 => (match r with
  | .non => .ok (.ref S1.length) S2
  | _ => .bad) else .bad
theorem run_makeT {k : Nat} {f C : Addr} {fd : FuncData} {ps : List Str} {sp : Sp} {E : XK} {pins : List (Addr × Obj)} {σ : L2.St} {H : Hp} {s : Shared} {Q : VK} {us : List Value} {vs : List V} (M : Mk X.K C f) (F : FnOk X.prog X.w X.K X.mg X.base (L2.CX X.prog X.w) k f fd ps sp) (hr : Room (k + 1) X.A) (hb : Binds X.K fd ps [])
    (hx : PassesAt (L2.CX X.prog X.w) X σ E) (I : Inv X pins σ H s) (r : Vals vs us)
    (want : ∀ x dx, H x = none → H dx = none → dx ≠ x → sp (.ref x :: vs) (upd (upd H dx (.own x)) x (.ins C dx [])) (fun v H2 => v = .non ∧ Q (.ref x) H2) E) : wpAny (model X.prog X.w) X.A (call (.ref C) us) (EP X pins σ Q) X.xe s := by
  have w0 := want (s.heap.objs.size + 1) s.heap.objs.size (I.hok.fresh (Nat.le_succ _)) (I.hok.fresh (Nat.le_refl _)) (Nat.ne_of_lt (Nat.lt_succ_self _))
  have J := Inv.made (C := C) I
  have rel : Vals (V.ref (s.heap.objs.size + 1) :: vs) (Value.ref (s.heap.objs.size + 1) :: us) := .cons rfl r
  have many : (Value.ref (s.heap.objs.size + 1) :: us).length = ps.length := by
    rw [← rel.length]; exact F.len _ _ _ _ w0
  have bt := hb _ (Value.ref (s.heap.objs.size + 1) :: us) J.kIn (by rw [List.append_nil]; exact many)
  rw [List.append_nil] at bt
  have go := F.run _ X.stack _ _ ⟨Value.ref (s.heap.objs.size + 1) :: us, []⟩ _ _ _ E (hr.make C us []) (J.env0.make C us []) bt rel w0
  refine wpAny_call (make_map (f := f) I.kIn M.makes M.init (beq_iff_eq.mp M.fn) (codeAny_mono go fun r s' got => ?_))
  match r, got with
  | .error u, got => exact hx pins _ _ u s' J got
  | .ok (.ret u), got =>
    obtain ⟨v, H', J3, rv, ev, q3⟩ := J.after got
    subst ev
    exact ⟨rv, V.ref (s.heap.objs.size + 1), H', J3, rfl, q3⟩
theorem de_make {k j n : Nat} {c : Str} {ps : List Str} {m : List D → Store → Res D} {p pos : Pos} {ex : Expr} {es : List Expr} {fa : BW.Env → Store → Res (List D)} (G : DfC X.prog X.w X.K X.mg X.base cl k c ps m) (hr : Room j X.A) (hj : k + 1 ≤ j) (hg : Gl X c) (tk : Takes X W) (ha : DA X cl W (ex :: es) fa) (hn : ps.length = n := by rfl)
    (hdb : (c == ("__debug__" : Str)) = false := by decide) (he : starEach (ex :: es) X.env = (false, eval ex X.env) :: starEach es X.env := by rfl) (hpl : (backTo pos (starEach es X.env)).any (·.1) = false := by rfl) :
    DE X cl W (.Call (.Name c p) (ex :: es) [] pos) (fMake c n m fa) := by
  subst hn
  obtain ⟨f, fd, M, F, hm, hb⟩ := G.ex
  refine ⟨fun pins s σ H Q I h => wpAny_Call_Name_kw (ld_glob I hg hm ?_ hdb)⟩
  have hA := ha.run pos pins s σ H (fun vs H1 => ∀ x dx, H1 x = none → H1 dx = none → dx ≠ x → spM X.K cl ps.length m (.ref x :: vs) (upd (upd H1 dx (.own x)) x (.ins (cl c) dx [])) (fun v H2 => v = .non ∧ Q (.ref x) H2) (WE W σ)) I ?_
  · refine PySem.W.callWith_K (h₀ := X.base) I.ok.mod.kin M.kp (thn hA fun us s1 got => ?_) he hpl
    obtain ⟨vs, H1, I1, r, q⟩ := got
    exact ⟨I1.kIn, run_makeT M F (hr.mono hj) hb (passAt tk σ) I1 r q⟩
  · obtain ⟨w, ρ, S, o, n, q⟩ := h
    refine tG.at o n (Post.bind q fun ds S1 w1 vs H1 e1 o1 r1 p1 x dx hx hd ne => ?_)
    split at p1
    · rename_i hl
      obtain ⟨e2, o2⟩ := o1.made (c := c) hx hd ne
      have kx : (w1.new x).k S1.length = x := by
        show (if S1.length = w1.n then x else _) = x
        rw [if_pos o1.len.symm]
      have rx : R X.K (w1.new x) (.ref x) (.ref S1.length) := by
        have := R.ref (K := X.K) (w := w1.new x) (i := S1.length) (by show _ < w1.n + 1; rw [o1.len]; omega)
        rw [kx] at this
        exact this
      refine ⟨w1.new x, S1 ++ [.ins c []], .ref S1.length :: ds, o2, .cons rx (r1.mono e2.le), by simpa using hl, ?_⟩
      cases hmr : m (.ref S1.length :: ds) (S1 ++ [.ins c []]) with
      | bad => rw [hmr] at p1; exact p1
      | err c' S2 => rw [hmr] at p1; exact fun w2 H2 x2 y2 => p1 w2 H2 (e2.trans x2) y2
      | ok d S2 =>
        rw [hmr] at p1
        intro w2 v H2 e3 o3 r3
        cases d with
        | non =>
          cases r3
          exact ⟨rfl, p1 w2 _ H2 (e2.trans e3) o3 (rx.mono e3.le)⟩
        | _ => exact p1.elim
    · exact p1.elim
end
end BW
namespace BW
open PySem PySem.Spec PyProof.Rows L2
/-! ### texts in order -/
abbrev leS (a b : Str) : Prop := a.cps.toList ≤ b.cps.toList
theorem leS_iff (a b : Str) : ltCps b.cps.toList a.cps.toList = false ↔ leS a b := by
  rw [ltCps_eq]
  simp [leS, List.not_lt]
theorem leS_anti {a b : Str} (h1 : leS a b) (h2 : leS b a) : a = b := by
  have e : a.cps.toList = b.cps.toList := List.le_antisymm h1 h2
  cases a; cases b
  simp only at e
  congr 1
  exact Array.ext' e
theorem leS_trans {a b c : Str} (h1 : leS a b) (h2 : leS b c) : leS a c := List.le_trans h1 h2
theorem leS_total (a b : Str) : leS a b ∨ leS b a := List.le_total _ _
theorem rising_pair : ∀ (l : List Str) (p : Str), risingS p l = true → (p :: l).Pairwise leS
  | [], p, _ => by simp
  | x :: l, p, h => by
    simp only [risingS, Bool.and_eq_true, Bool.not_eq_true'] at h
    have px := (leS_iff p x).mp h.1
    have ih := rising_pair l x h.2
    refine List.pairwise_cons.mpr ⟨fun z hz => ?_, ih⟩
    rcases List.mem_cons.mp hz with e | e
    · rw [e]; exact px
    · exact leS_trans px ((List.pairwise_cons.mp ih).1 z e)
theorem sorted_pair {l : List Str} (h : sortedS l = true) : l.Pairwise leS := by
  cases l with
  | nil => exact .nil
  | cons x l => exact rising_pair l x h
theorem perm_eqS : ∀ {a b : List Str}, a.Perm b → a.Pairwise leS → b.Pairwise leS → a = b
  | [], b, p, _, _ => by rw [List.nil_perm.mp p]
  | x :: a, [], p, _, _ => by have := p.length_eq; simp at this
  | x :: a, y :: b, p, ha, hb => by
    obtain ⟨a1, a2⟩ := List.pairwise_cons.mp ha
    obtain ⟨b1, b2⟩ := List.pairwise_cons.mp hb
    have hx : x ∈ y :: b := p.mem_iff.mp List.mem_cons_self
    have hy : y ∈ x :: a := p.mem_iff.mpr List.mem_cons_self
    have e : x = y := by
      rcases List.mem_cons.mp hx with e | e
      · exact e
      · rcases List.mem_cons.mp hy with f | f
        · exact f.symm
        · exact leS_anti (a1 y f) (b1 x e)
    subst e
    rw [perm_eqS ((List.perm_cons x).mp p) a2 b2]
def insS (x : Str) : List Str → List Str
  | [] => [x]
  | y :: l => if ltCps y.cps.toList x.cps.toList = false then x :: y :: l else y :: insS x l
def ssort : List Str → List Str
  | [] => []
  | x :: l => insS x (ssort l)
theorem insS_perm (x : Str) : ∀ l, (insS x l).Perm (x :: l)
  | [] => .refl _
  | y :: l => by
    unfold insS
    split
    · exact .refl _
    · exact ((insS_perm x l).cons y).trans (.swap x y l)
theorem ssort_perm : ∀ l, (ssort l).Perm l
  | [] => .refl _
  | x :: l => (insS_perm x (ssort l)).trans ((ssort_perm l).cons x)
theorem insS_le (x : Str) : ∀ l : List Str, l.Pairwise leS → (insS x l).Pairwise leS
  | [], _ => by simp [insS]
  | y :: l, h => by
    unfold insS
    obtain ⟨h1, h2⟩ := List.pairwise_cons.mp h
    split
    · rename_i hx
      have hx' := (leS_iff x y).mp hx
      exact List.pairwise_cons.mpr ⟨fun z hz => by
        rcases List.mem_cons.mp hz with e | e
        · rw [e]; exact hx'
        · exact leS_trans hx' (h1 z e), h⟩
    · rename_i hx
      have hx' : leS y x := (leS_total x y).resolve_left fun z => hx ((leS_iff x y).mpr z)
      refine List.pairwise_cons.mpr ⟨fun z hz => ?_, insS_le x l h2⟩
      rcases List.mem_cons.mp ((insS_perm x l).mem_iff.mp hz) with e | e
      · rw [e]; exact hx'
      · exact h1 z e
theorem ssort_le : ∀ l : List Str, (ssort l).Pairwise leS
  | [] => .nil
  | x :: l => insS_le x _ (ssort_le l)
theorem sorted_is {ys ks : List Str} (p : ys.Perm ks) (s : sortedS ys = true) : ys = ssort ks := perm_eqS (p.trans (ssort_perm ks).symm) (sorted_pair s) (ssort_le ks)
def strs? : List D → Option (List Str)
  | [] => some []
  | .str x :: l => (strs? l).map (x :: ·)
  | _ :: _ => none
def skeys? : List (Key × D) → Option (List Str)
  | [] => some []
  | (.inr x, _) :: l => (skeys? l).map (x :: ·)
  | _ :: _ => none
theorem skeys_map : ∀ {l : List (Key × D)} {ks : List Str}, skeys? l = some ks → l.map (·.1) = ks.map Sum.inr
  | [], _, e => by cases e; rfl
  | (.inr x, _) :: l, ks, e => by
    simp only [skeys?, Option.map_eq_some_iff] at e
    obtain ⟨ks', e1, rfl⟩ := e
    simp [skeys_map e1]
  | (.inl _, _) :: _, _, e => by cases e
theorem ra_strs {K : PySem.W.Frag} {w : Wd} : ∀ ss : List Str, RA K w (ss.map V.str) (ss.map D.str)
  | [] => .nil
  | n :: ns => .cons (.str n) (ra_strs ns)
def gSortedX : List D → Store → Option D
  | [.dic l], _ => (skeys? l).bind fun ks => if ks.length < 64 then some (.lst ((ssort ks).map .str)) else none
  | ds, S => gSorted ds S
section
variable {X : Cx} {cl : Str → Addr} {W : WX}
theorem c_sortedX (hc : X.calm = true) : CallR X (.builtin "sorted") (rN X.K cl gSortedX) := by
  refine ofN (CallR.or (c_sorted (cl := cl)) (call_sortedD hc)) fun xs H Q w S ds z k r hg q => ?_
  unfold gSortedX at hg
  split at hg
  · rename_i l
    obtain ⟨v, rfl, rv⟩ := ra1 r
    obtain ⟨a, vs, rfl, ha, ra⟩ := rv.dic_inv
    cases hk : skeys? l with
    | none => rw [hk] at hg; cases hg
    | some ks =>
      rw [hk] at hg
      simp only [Option.bind_some] at hg
      split at hg
      · rename_i h64
        cases hg
        refine .inr ⟨a, vs, ks, rfl, Rd.mono k.sub ha, by rw [ra.keys]; exact skeys_map hk, h64, fun ys p pm so hp => ?_⟩
        rw [sorted_is pm so]
        obtain ⟨e1, o1, r1⟩ := k.layL hp (ra_strs (ssort ks))
        exact q _ _ _ e1 o1 r1
      · cases hg
  · exact .inl ⟨w, S, ds, z, k, r, hg, q⟩
/-! ### str(n), text * n -/
def gStr : List D → Store → Option D
  | [.int i], _ => if i.natAbs.log2 < 1920 then some (.str (toString i)) else none
  | _, _ => none
theorem c_str : CallR X (.type "str") (rN X.K cl gStr) := by
  refine ofN call_str_int fun xs H Q w S ds z k r hg q => ?_
  unfold gStr at hg
  split at hg
  · split at hg
    · rename_i h
      cases hg
      obtain ⟨v, rfl, rv⟩ := ra1 r
      cases rv
      exact ⟨_, rfl, h, q _ _ _ (Ext.refl _ _) k (.str _)⟩
    · cases hg
  · cases hg
def repS (x : Str) (n : Nat) : Str := ⟨(List.replicate n x.cps).foldl (· ++ ·) #[]⟩
def gMulX : D → D → Store → Option D
  | .str x, .int n, _ => if 0 ≤ n ∧ n ≤ 1000 ∧ x.length ≤ 1000 then some (.str (if n < 1 then Str.empty else if (n == 1 || x.length == 0) = true then x else repS x n.toNat)) else none
  | d, e, S => gMul d e S
theorem op_mulStr : OpR X (binaryOp .Mult) (fun x y H Q => ∃ (z : Str) (n : Int), x = .str z ∧ y = .int n ∧ (0 ≤ n ∧ n ≤ 1000 ∧ z.length ≤ 1000) ∧ Q (.str (if n < 1 then Str.empty else if (n == 1 || z.length == 0) = true then z else repS z n.toNat)) H) := by
  intro pins s σ H x y u v Q I rx ry ⟨z, n, ex, ey, hl, q⟩
  subst ex ey
  obtain ⟨t, rfl⟩ := rx
  obtain ⟨t', rfl⟩ := ry
  have h63 : z.length * n.toNat ≤ 1000 * 1000 := Nat.mul_le_mul hl.2.2 (by omega)
  refine PySem.P.mul_str ?_ (fun h1 _ => ?_) (fun _ _ => ?_) ?_
  · have h1 : ¬ n < -(2 ^ 63 : Int) := by omega
    have h2 : ¬ n ≥ 2 ^ 63 := by omega
    rw [decide_eq_false h1, decide_eq_false h2]; rfl
  · have : (1000 : Int) ≤ (2 ^ 63 - 1) / n := by
      rw [Int.le_ediv_iff_mul_le (by omega)]
      omega
    omega
  · have := sizeLine_eq
    show decide (_ > sizeLine) = false
    exact decide_eq_false (by omega)
  · split
    · rename_i h1
      rw [if_pos h1] at q
      exact ⟨by rw [sizeLine_eq]; decide, .str _, H, I.tok _, ⟨_, rfl⟩, q⟩
    · rename_i h1
      rw [if_neg h1] at q
      split
      · rename_i h2
        rw [if_pos h2] at q
        exact ⟨.str _, H, I, ⟨_, rfl⟩, q⟩
      · rename_i h2
        rw [if_neg h2] at q
        refine ⟨?_, .str _, H, I.tok _, ⟨_, rfl⟩, q⟩
        have sz : ∀ (m : Nat) (b : Array Nat), ((List.replicate m z.cps).foldl (· ++ ·) b).size = b.size + m * z.cps.size := by
          intro m
          induction m with
          | zero => intro b; simp
          | succ m ih =>
            intro b
            rw [List.replicate_succ, List.foldl_cons, ih, Array.size_append, Nat.succ_mul]
            omega
        have := sz n.toNat #[]
        have hz : z.cps.size * n.toNat ≤ 1000 * 1000 := h63
        show ((List.replicate n.toNat z.cps).foldl (· ++ ·) #[]).size ≤ sizeLine
        rw [this, sizeLine_eq, Nat.mul_comm]
        simp
        omega
theorem o_mulX : OpR X (binaryOp .Mult) (r2 X.K cl gMulX) := by
  refine of2 (OpR.or (o_mul (cl := cl)) op_mulStr) fun x y H Q w S d e z k r1 r2 hg q => ?_
  unfold gMulX at hg
  split at hg
  · split at hg
    · rename_i h
      cases hg
      cases r1; cases r2
      exact .inr ⟨_, _, rfl, rfl, h, q w _ H (Ext.refl _ _) k (.str _)⟩
    · cases hg
  · exact .inl ⟨w, S, d, e, z, k, r1, r2, hg, q⟩
/-! ### dict of pairs -/
def pairs? : List D → Option (List (Key × D))
  | [] => some []
  | .tup [k, v] :: l => match keyD k with
    | some k => (pairs? l).map ((k, v) :: ·)
    | none => none
  | _ :: _ => none
def mergeD (kvs more : List (Key × D)) : List (Key × D) := more.foldl (fun acc kv => putD acc kv.1 kv.2) kvs
theorem RK.merge {K : PySem.W.Frag} {w : Wd} : ∀ {more : List (Key × V)} {moreD : List (Key × D)}, RK K w more moreD → ∀ {vs : List (Key × V)} {ds : List (Key × D)}, RK K w vs ds → RK K w (mergeK vs more) (mergeD ds moreD)
  | _, _, .nil, _, _, h => h
  | _, _, .cons r t, _, _, h => RK.merge t (RK.put r h)
theorem pairs_ra {K : PySem.W.Frag} {w : Wd} {F' : Hp} (e : Same w.F F') : ∀ {l : List D} {vs : List V} {kds : List (Key × D)}, RA K w vs l → pairs? l = some kds → ∃ (ps : List Addr) (kvs : List (Key × V)), vs = ps.map V.ref ∧ Paired (fun p kv => SqT K F' p [kV kv.1, kv.2]) ps kvs ∧ RK K w kvs kds
  | [], _, kds, .nil, h => by cases h; exact ⟨[], [], rfl, .nil, .nil⟩
  | d :: l, _, kds, .cons r t, h => by
    unfold pairs? at h
    split at h
    · rename_i heq; cases heq
    · rename_i k v l' heq
      cases heq
      split at h
      · rename_i key hk
        simp only [Option.map_eq_some_iff] at h
        obtain ⟨kds', h1, rfl⟩ := h
        obtain ⟨ps, kvs, rfl, pr, rk⟩ := pairs_ra e t h1
        obtain ⟨a, us, rfl, ha, ra⟩ := r.tup_inv
        cases ra with
        | cons r1 t1 =>
          cases t1 with
          | cons r2 t2 =>
            cases t2
            have ek := keyD_v r1 hk
            subst ek
            exact ⟨a :: ps, (key, _) :: kvs, rfl, .cons (SqT.mono e ha) pr, .cons r2 rk⟩
      · cases h
    · cases h
def gDictP : List D → Store → Option D
  | [.lst l], _ => (pairs? l).map fun kds => .dic (mergeD [] kds)
  | _, _ => none
theorem de_dictP {p pos : Pos} {a : Expr} {fa : BW.Env → Store → Res (List D)} (hc : X.calm = true) (ha : DA X cl W [a] fa) (hg : Gl X "dict") (hm : X.mg "dict" = none) (he : starEach [a] X.env = (false, eval a X.env) :: starEach [] X.env := by rfl) (hpl : (backTo pos (starEach [] X.env)).any (·.1) = false := by rfl) :
    DE X cl W (.Call (.Name "dict" p) [a] [] pos) (fN gDictP fa) := by
  refine PE.imp (PE.lkA (pe_callTy (call_dictP hc) hg hm (by decide +kernel) ha (he := he) (hpl := hpl))) fun σ H Q ⟨w, ρ, S, o, n, p⟩ => ?_
  refine tG.at o n (Post.bind p fun ds S1 w1 xs H1 e1 o1 r1 p1 => ?_)
  unfold gDictP at p1
  split at p1
  · rename_i l
    obtain ⟨v, rfl, rv⟩ := ra1 r1
    obtain ⟨a, vs, rfl, h1, h2⟩ := rv.lst_inv
    cases hp : pairs? l with
    | none => rw [hp] at p1; exact p1.elim
    | some kds =>
      rw [hp] at p1
      obtain ⟨ps, kvs, rfl, pr, rk⟩ := pairs_ra o1.sub h2 hp
      refine ⟨a, ps, kvs, rfl, o1.sqL h1, pr, fun q hq => ⟨q, _, upd_same, trivial, fun od => ?_⟩⟩
      rw [upd_upd]
      obtain ⟨e2, o2, r2⟩ := o1.layD (q := od) hq (RK.merge rk .nil)
      exact p1.okT e2 o2 r2
  · exact p1.elim
end
end BW
namespace BW
open PySem PySem.Spec PyProof.Rows L2
theorem h64 {k : Nat} {A : Around} (r : L2H.RoomH k A) : A.units + 64 < cLine := by have := r.un; omega
theorem h65 {k : Nat} {A : Around} (r : L2H.RoomH k A) : A.units + 65 < cLine := by have := r.un; omega
theorem h1 {k : Nat} {A : Around} (r : L2H.RoomH k A) : A.units + 1 < cLine := by have := r.un; omega
theorem u64 {k : Nat} {A : Around} (r : Room k A) : A.units + 64 < cLine := r.units
theorem hot_of {k : Nat} {A : Around} (r : Room k A) (h : Option Value) : L2H.RoomH k (A.mark h) := ⟨r.dp, r.un⟩
theorem kit_sub {K : PySem.W.Frag} {C B : Addr} {b : Bool} (h2 : PySem.W.isClsIn K B = true) (h3 : PySem.W.typeIn K (.ref B) = some (.type "type")) (h4 : PySem.W.subIn K (.ref C) (.ref B) = some b) : PySem.W.kitCls K (.ref C) (.ref B) = some b := by
  have h2' : (PySem.W.clsIn K B).isSome = true := h2
  have e2 : ((PySem.W.clsIn K B).isSome && PySem.W.typeIn K (.ref B) == some (.type "type")) = true := by rw [h2', h3]; rfl
  show (if ((PySem.W.clsIn K B).isSome && PySem.W.typeIn K (.ref B) == some (.type "type")) = true then _ else none) = _
  rw [if_pos e2]
  exact h4
/-- an error of the class at C is what «except B» names -/
theorem exm_sub {K : PySem.W.Frag} {C B : Addr} (h1 : PySem.W.subIn K (.ref B) (.type "BaseException") = some true) (h2 : PySem.W.isClsIn K B = true) (h3 : PySem.W.typeIn K (.ref B) = some (.type "type")) (h4 : PySem.W.subIn K (.ref C) (.ref B) = some true) : PySem.W.exmOne K (.ref C) (.ref B) = some true := by
  have e1 : (PySem.W.subIn K (.ref B) (.type "BaseException") == some true) = true := by rw [h1]; rfl
  show (if (PySem.W.subIn K (.ref B) (.type "BaseException") == some true) = true then _ else none) = _
  rw [if_pos e1]
  exact kit_sub h2 h3 h4
theorem kit_one {K : PySem.W.Frag} {C B : Addr} {b : Bool} (h2 : PySem.W.isClsIn K B = true) (h3 : PySem.W.typeIn K (.ref B) = some (.type "type")) (h4 : PySem.W.subIn K (.ref C) (.ref B) = some b) (h5 : C = B → b = true) : PySem.W.kitOne K (.ref C) (.ref B) = some b := by
  unfold PySem.W.kitOne
  split
  · rename_i e
    have : C = B := by simpa using e
    rw [h5 this]
  · exact kit_sub h2 h3 h4
theorem kit_ve {K : PySem.W.Frag} {C : Addr} (h : PySem.W.subIn K (.ref C) (.type "ValueError") = some true) : PySem.W.kitOne K (.ref C) (.type "ValueError") = some true := by
  unfold PySem.W.kitOne
  rw [if_neg (by simp)]
  show (if PySem.W.kitMeta "ValueError" = true then _ else none) = _
  rw [if_pos (by decide +kernel)]
  exact h
section
variable (ρ : BW.Env) (S : Store)
@[simp] theorem e_sRaise (c : Str) : sRaise c ρ S = .err c ρ S := rfl
@[simp] theorem e_sTry (gb : Stm) (i : Nat) (cs : List Str) (FE : Str → BW.Env → Store → Res D) : sTry gb i cs FE ρ S = match gb ρ S with
  | .err c ρ' S' => if i < ρ'.length ∧ c ∈ cs then Out.of (noErr (FE c (ρ'.set i none) S')) ρ' fun d S1 => .ret d S1 else .bad
  | o => o := rfl
@[simp] theorem e_fMt (g : List D → List D → Store → Option D) (fo : BW.Env → Store → Res D) (fa : BW.Env → Store → Res (List D)) : fMt g fo fa ρ S = (fo ρ S).bind fun d S1 => match d with
  | .lst l => (fa ρ S1).bind fun ds S2 => Res.of S2 (g l ds S2)
  | _ => .bad := rfl
@[simp] theorem e_fFld (c f : Str) (fo : BW.Env → Store → Res D) : fFld c f fo ρ S = (fo ρ S).bind fun d S1 => match insAt c d S1 with
  | some (_, fs) => Res.of S1 (fs.lookup f)
  | none => .bad := rfl
@[simp] theorem e_sFldSet (c f : Str) (fo fv : BW.Env → Store → Res D) : sFldSet c f fo fv ρ S = Out.of (fv ρ S) ρ fun y S1 => Out.of (fo ρ S1) ρ fun d S2 => match insAt c d S2 with
  | some (i, fs) => if fs.length < 1000 then .next ρ (S2.set i (.ins c (putFD f y fs))) else .bad
  | none => .bad := rfl
@[simp] theorem e_fMeth (c mn : Str) (n : Nat) (m : List D → Store → Res D) (fo : BW.Env → Store → Res D) (fa : BW.Env → Store → Res (List D)) : fMeth c mn n m fo fa ρ S = (fo ρ S).bind fun d S1 => match insAt c d S1 with
  | some (_, fs) => if fs.lookup mn = none then (fa ρ S1).bind fun ds S2 => if (d :: ds).length = n then m (d :: ds) S2 else .bad else .bad
  | none => .bad := rfl
@[simp] theorem e_fMake (c : Str) (n : Nat) (m : List D → Store → Res D) (fa : BW.Env → Store → Res (List D)) : fMake c n m fa ρ S = (fa ρ S).bind fun ds S1 => if ds.length + 1 = n then (m (.ref S1.length :: ds) (S1 ++ [.ins c []])).bind fun r S2 => (match r with
  | .non => .ok (.ref S1.length) S2
  | _ => .bad) else .bad := rfl
@[simp] theorem e_sSetOwnD (i : Nat) (f : BW.Env → Store → Res (List (Key × D))) : sSetOwnD i f ρ S = Out.of (f ρ S) ρ fun l S1 => .next (ρ.set i (some (.ownd l))) S1 := rfl
@[simp] theorem e_fDict (fa : BW.Env → Store → Res (List D)) : fDict fa ρ S = (fa ρ S).bind fun ds S1 => match ds with
  | [.dic l] => .ok l S1
  | _ => .bad := rfl
@[simp] theorem o_inT (neg : Bool) (d : D) (l : List D) : gInX neg d (.tup l) S = gIn neg d (.tup l) S := rfl
@[simp] theorem o_inL (neg : Bool) (d : D) (l : List D) : gInX neg d (.lst l) S = gIn neg d (.lst l) S := rfl
@[simp] theorem o_inS (neg : Bool) (d : D) (x : Str) : gInX neg d (.str x) S = gIn neg d (.str x) S := rfl
@[simp] theorem o_inK (neg : Bool) (x : Str) (l : List (Key × D)) : gInX neg (.str x) (.dic l) S = some (.bl (xor neg (valD l (.inr x)).isSome)) := rfl
@[simp] theorem o_mulI (i j : Int) : gMulX (.int i) (.int j) S = gMul (.int i) (.int j) S := rfl
@[simp] theorem o_mulL (l : List D) (j : Int) : gMulX (.lst l) (.int j) S = gMul (.lst l) (.int j) S := rfl
@[simp] theorem o_mulT (l : List D) (j : Int) : gMulX (.tup l) (.int j) S = gMul (.tup l) (.int j) S := rfl
@[simp] theorem o_sortL (l : List D) : gSortedX [.lst l] S = gSorted [.lst l] S := rfl
@[simp] theorem o_lenD (l : List (Key × D)) : gLen [.dic l] S = some (.int (l.length : Nat)) := rfl
@[simp] theorem o_ixD (l : List (Key × D)) (x : Str) : gIx (.dic l) (.str x) S = valD l (.inr x) := rfl
end
@[simp] theorem e_fAt0 {α : Type} (a : Addr) (r : Store → Res α) (l : BW.Env) (S : Store) : fAt 0 a r (some (.adr a) :: l) S = r S := by unfold fAt; simp
end BW
namespace BW
open PySem PySem.Spec PyProof.Rows L2
def topS (i : Nat) : Stmt := PySem.Challenge.pw_boltwatch_k41_whole_locked.main.body.getD i (.Pass ⟨0, 0, 0, 0⟩)
def XS : List Str := ["NoTime", "NoName", "NoCode", "NoRight", "Taken", "Wrong", "Locked"]
def isaX (c d : Str) : Bool := c == d
structure Ct (K : PySem.W.Frag) (mg : Str → Option Value) (cl : Str → Addr) : Prop where
  c_LETTERS : ∃ t, mg "LETTERS" = some (.str "abcdefghijklmnopqrstuvwxyz" t)
  c_FIGURES : ∃ t, mg "FIGURES" = some (.str "0123456789" t)
  c_RIGHTS : ∃ a, mg "RIGHTS" = some (.ref a) ∧ ∀ w, R K w (.ref a) (.tup [(.str "lift"), (.str "set")])
  x_BoltError : XcOk K mg cl "BoltError"
  x_NoTime : XcOk K mg cl "NoTime"
  x_NoName : XcOk K mg cl "NoName"
  x_NoCode : XcOk K mg cl "NoCode"
  x_NoRight : XcOk K mg cl "NoRight"
  x_Taken : XcOk K mg cl "Taken"
  x_Wrong : XcOk K mg cl "Wrong"
  x_Locked : XcOk K mg cl "Locked"
  ec : ∀ c ∈ XS, ExcC K (cl c)
  isa : ∀ c ∈ XS, ∀ d ∈ XS, PySem.W.kitOne K (.ref (cl c)) (.ref (cl d)) = some (isaX c d)
  isv : ∀ c ∈ XS, PySem.W.kitOne K (.ref (cl c)) (.type "ValueError") = some true
  exm : ∀ c ∈ XS, PySem.W.exmOne K (.ref (cl c)) (.ref (cl "BoltError")) = some true
  noVE : mg "ValueError" = none
  k_Codes : ClsOk K cl "Codes" ["tries", "rest", "rows", "misses", "since", "shut", "last"]
  triv : True
theorem fAt_set {α : Type} {i : Nat} {a : Addr} {r : Store → Res α} {ρ : BW.Env} {S : Store} (h : i < ρ.length) : fAt i a r (ρ.set i (some (.adr a))) S = r S := by
  unfold fAt
  rw [List.getElem?_set_self h]
  simp
section
variable {P : Program} {w : World} {K : PySem.W.Frag} {mg : Str → Option Value} {base : Heap} {cl : Str → Addr}
abbrev st_law_cell : Stmt := topS 18
abbrev nm_law_cell : List Str := ["script", "k"]
def ss_law_cell : Scope := scp [("script", .local), ("k", .local), ("len", .globalImplicit)] []
theorem sc_law_cell : FnScope nm_law_cell ["script", "k"] ss_law_cell := ⟨rfl, rfl, rfl, by decide +kernel, rfl, by decide +kernel, by decide +kernel⟩
def g_law_cell : Stm := (sSeq (sIf (fB (f2 (gEq false) (fV 0) (fLst fNil))) (sRet (f2 gMulX (fC (.int 7)) (fV 1))) sNil)
    (sRet (f2 gAdd (f2 gIx (fV 0) (f2 gMod (fV 1) (fN gLen (fCons (fV 0) fNil)))) (f2 gMulX (fC (.int 6553)) (f2 gFdiv (fV 1) (fN gLen (fCons (fV 0) fNil)))))))
def m_law_cell : List D → Store → Res D := mOf 2 g_law_cell
theorem fn_law_cell {f : Addr} {fd : FuncData} (F : Fun K "_law_cell" "_law_cell" st_law_cell f fd) (B : Bt mg) (C : Ct K mg cl) : FnOk P w K mg base (L2.CX P w) 1 f fd ["script", "k"] (spM K cl 2 m_law_cell) :=
  Fun.fn (k := 0) (g := g_law_cell) F (by rfl) (sc := ss_law_cell) (by rfl) (by rfl) sc_law_cell fun cdv A outer s H E e hr => by
    refine dss_cons ?_ ?_
    · refine ds_if ?_ ?_ ?_
      · exact (dt_cmp (o_eq (u64 hr)) (de_v 0 (pv 0)) (de_lst da_nil) (nomark _))
      · refine dss_one ?_
        refine ds_ret ?_
        exact (de_bin o_mulX de_int (de_v 1 (pv 1)))
      · exact dss_nil
    refine dss_one ?_
    refine ds_ret ?_
    exact (de_bin o_add (de_ix (u1 hr) (de_v 0 (pv 0)) (de_bin o_mod (de_v 1 (pv 1)) (de_callB c_len (by exact rfl) B.len bb_len (da_cons (de_v 0 (pv 0)) da_nil)))) (de_bin o_mulX de_int (de_bin o_fdiv (de_v 1 (pv 1)) (de_callB c_len (by exact rfl) B.len bb_len (da_cons (de_v 0 (pv 0)) da_nil)))))
theorem ok_law_cell {f : Addr} {fd : FuncData} (F : Fun K "_law_cell" "_law_cell" st_law_cell f fd) (hb : Binds K fd ["script", "k"] []) (hm : mg "_law_cell" = some (.ref f)) (B : Bt mg) (C : Ct K mg cl) : Df P w K mg base cl 1 "_law_cell" ["script", "k"] m_law_cell :=
  ⟨f, fd, fn_law_cell F B C, hm, F.kp, hb⟩
abbrev st_law_drawn : Stmt := topS 19
abbrev nm_law_drawn : List Str := ["script", "k", "many", "cell"]
def ss_law_drawn : Scope := scp [("script", .local), ("k", .local), ("many", .local), ("cell", .local), ("_law_cell", .globalImplicit)] []
theorem sc_law_drawn : FnScope nm_law_drawn ["script", "k", "many"] ss_law_drawn := ⟨rfl, rfl, rfl, by decide +kernel, rfl, by decide +kernel, by decide +kernel⟩
def g_law_drawn : Stm := (sSeq (sSet 3 (f2 gMod (f2 gAdd (f2 gMulX (f2 gMod (fM 2 m_law_cell (fCons (fV 0) (fCons (fV 1) fNil))) (fC (.int 2147483563))) (fC (.int 69069))) (f2 gMulX (fC (.int 104723)) (f2 gAdd (fV 1) (fC (.int 1))))) (fC (.int 2147483563))))
    (sSeq (sSet 3 (f2 gMod (f2 gAdd (f2 gMulX (fV 3) (fV 3)) (f2 gFdiv (fV 3) (fC (.int 3)))) (fC (.int 2147483399))))
    (sRet (f2 gMod (f2 gFdiv (f2 gMod (f2 gAdd (f2 gMulX (fV 3) (fV 3)) (f2 gFdiv (fV 3) (fC (.int 7)))) (fC (.int 2147483647))) (fC (.int 11))) (fV 2)))))
def m_law_drawn : List D → Store → Res D := mOf 4 g_law_drawn
theorem fn_law_drawn {f : Addr} {fd : FuncData} (F : Fun K "_law_drawn" "_law_drawn" st_law_drawn f fd) (B : Bt mg) (C : Ct K mg cl) (d_law_cell : Df P w K mg base cl 1 "_law_cell" ["script", "k"] m_law_cell) : FnOk P w K mg base (L2.CX P w) 2 f fd ["script", "k", "many"] (spM K cl 3 m_law_drawn) :=
  Fun.fn (k := 1) (g := g_law_drawn) F (by rfl) (sc := ss_law_drawn) (by rfl) (by rfl) sc_law_drawn fun cdv A outer s H E e hr => by
    refine dss_cons ?_ ?_
    · refine ds_set (i := 3) sc_law_drawn.nd (by exact rfl) (by exact (Or.inl rfl)) ?_
      exact (de_bin o_mod (de_bin o_add (de_bin o_mulX (de_bin o_mod (de_call d_law_cell hr (by decide) (by exact rfl) (by exact takes_of rfl rfl rfl rfl) (da_cons (de_v 0 (pv 0)) (da_cons (de_v 1 (pv 1)) da_nil))) de_int) de_int) (de_bin o_mulX de_int (de_bin o_add (de_v 1 (pv 1)) de_int))) de_int)
    refine dss_cons ?_ ?_
    · refine ds_set (i := 3) sc_law_drawn.nd (by exact rfl) (by exact (Or.inl rfl)) ?_
      exact (de_bin o_mod (de_bin o_add (de_bin o_mulX (de_v 3 (pv 3)) (de_v 3 (pv 3))) (de_bin o_fdiv (de_v 3 (pv 3)) de_int)) de_int)
    refine dss_one ?_
    refine ds_ret ?_
    exact (de_bin o_mod (de_bin o_fdiv (de_bin o_mod (de_bin o_add (de_bin o_mulX (de_v 3 (pv 3)) (de_v 3 (pv 3))) (de_bin o_fdiv (de_v 3 (pv 3)) de_int)) de_int) de_int) (de_v 2 (pv 2)))
theorem ok_law_drawn {f : Addr} {fd : FuncData} (F : Fun K "_law_drawn" "_law_drawn" st_law_drawn f fd) (hb : Binds K fd ["script", "k", "many"] []) (hm : mg "_law_drawn" = some (.ref f)) (B : Bt mg) (C : Ct K mg cl) (d_law_cell : Df P w K mg base cl 1 "_law_cell" ["script", "k"] m_law_cell) : Df P w K mg base cl 2 "_law_drawn" ["script", "k", "many"] m_law_drawn :=
  ⟨f, fd, fn_law_drawn F B C d_law_cell, hm, F.kp, hb⟩
abbrev st_Codes_init : Stmt := inClass (topS 16) 0
abbrev nm_Codes_init : List Str := ["self", "tries", "rest"]
def ss_Codes_init : Scope := scp [("self", .local), ("tries", .local), ("rest", .local)] []
theorem sc_Codes_init : FnScope nm_Codes_init ["self", "tries", "rest"] ss_Codes_init := ⟨rfl, rfl, rfl, by decide +kernel, rfl, by decide +kernel, by decide +kernel⟩
def g_Codes_init : Stm := (sSeq (sFldSet "Codes" "tries" (fV 0) (fV 1))
    (sSeq (sFldSet "Codes" "rest" (fV 0) (fV 2))
    (sSeq (sFldSet "Codes" "rows" (fV 0) (fC (.dic [])))
    (sSeq (sFldSet "Codes" "misses" (fV 0) (fC (.int 0)))
    (sSeq (sFldSet "Codes" "since" (fV 0) (fC (.int 0)))
    (sSeq (sFldSet "Codes" "shut" (fV 0) (fC (.int 0)))
    (sFldSet "Codes" "last" (fV 0) (fC (.int 0)))))))))
def m_Codes_init : List D → Store → Res D := mOf 3 g_Codes_init
theorem fn_Codes_init {f : Addr} {fd : FuncData} (F : Fun K "__init__" "Codes.__init__" st_Codes_init f fd) (B : Bt mg) (C : Ct K mg cl) : FnOk P w K mg base (L2.CX P w) 1 f fd ["self", "tries", "rest"] (spM K cl 3 m_Codes_init) :=
  Fun.fn (k := 0) (g := g_Codes_init) F (by rfl) (sc := ss_Codes_init) (by rfl) (by rfl) sc_Codes_init fun cdv A outer s H E e hr => by
    refine dss_cons ?_ ?_
    · exact ds_fld C.k_Codes (by decide) (de_v 0 (pv 0)) (de_v 1 (pv 1))
    refine dss_cons ?_ ?_
    · exact ds_fld C.k_Codes (by decide) (de_v 0 (pv 0)) (de_v 2 (pv 2))
    refine dss_cons ?_ ?_
    · exact ds_fld C.k_Codes (by decide) (de_v 0 (pv 0)) de_dic0
    refine dss_cons ?_ ?_
    · exact ds_fld C.k_Codes (by decide) (de_v 0 (pv 0)) de_int
    refine dss_cons ?_ ?_
    · exact ds_fld C.k_Codes (by decide) (de_v 0 (pv 0)) de_int
    refine dss_cons ?_ ?_
    · exact ds_fld C.k_Codes (by decide) (de_v 0 (pv 0)) de_int
    refine dss_one ?_
    exact ds_fld C.k_Codes (by decide) (de_v 0 (pv 0)) de_int
theorem ok_Codes_init {f : Addr} {fd : FuncData} (F : Fun K "__init__" "Codes.__init__" st_Codes_init f fd) (hb : Binds K fd ["self", "tries", "rest"] []) (hm : Mk K (cl "Codes") f) (hg : mg "Codes" = some (.ref (cl "Codes"))) (B : Bt mg) (C : Ct K mg cl) : DfC P w K mg base cl 1 "Codes" ["self", "tries", "rest"] m_Codes_init :=
  ⟨f, fd, hm, fn_Codes_init F B C, hg, hb⟩
abbrev st_is_name : Stmt := topS 13
abbrev nm_is_name : List Str := ["thing", "sign"]
def ss_is_name : Scope := scp [("thing", .local), ("isinstance", .globalImplicit), ("str", .globalImplicit), ("len", .globalImplicit), ("all", .globalImplicit)] [("fast", .str "thing"), ("fast", .str "sign")]
theorem sc_is_name : FnScope nm_is_name ["thing"] ss_is_name := ⟨rfl, rfl, rfl, by decide +kernel, rfl, by decide +kernel, by decide +kernel⟩
def g_is_name : Stm := (sRet (vAnd (fIsi isStrD (fV 0)) (vAnd (fChain gLe gLe (fC (.int 1)) (fN gLen (fCons (fV 0) fNil)) (fC (.int 6))) (fN gAll (fCons (fFrz (fComp (fItems (fV 0)) (tgName 1) fYes (f2 (gInX false) (fV 1) (fC (.str "abcdefghijklmnopqrstuvwxyz"))) [1])) fNil)))))
def m_is_name : List D → Store → Res D := mOf 2 g_is_name
theorem fn_is_name {f : Addr} {fd : FuncData} (F : Fun K "is_name" "is_name" st_is_name f fd) (B : Bt mg) (C : Ct K mg cl) : FnOk P w K mg base (L2.CX P w) 1 f fd ["thing"] (spM K cl 1 m_is_name) :=
  Fun.fn (k := 0) (g := g_is_name) F (by rfl) (sc := ss_is_name) (by rfl) (by rfl) sc_is_name fun cdv A outer s H E e hr => by
    refine dss_one ?_
    refine ds_ret ?_
    exact (de_and (de_isi isT_str (de_v 0 (pv 0)) (by exact rfl) B.isinstance (by exact rfl) B.str bb_str) (de_and (de_chain o_le o_le de_int (de_callB c_len (by exact rfl) B.len bb_len (da_cons (de_v 0 (pv 0)) da_nil)) de_int) (de_one (de_callB (c_all (by exact rfl)) (by exact rfl) B.all bb_all (da_cons (DL.de (dl_comp (by exact rfl) sc_is_name.nd (di_seq (de_v 0 (pv 0))) (by exact blkOk_by (N := nm_is_name) (sc := ss_is_name) (own := [("sign", 1)]) (by decide +kernel)) (fun _ _ _ _ _ => (eg_name (i := 1) (by decide) sc_is_name.nd (by exact rfl) (by first | exact Or.inl rfl | exact Or.inr rfl))) (fun _ _ _ _ _ => dts_nil) (fun _ _ _ _ _ => (de_cmp (o_inX (u65 hr)) (de_v 1 (pv 1)) (de_gstr' (by exact rfl) C.c_LETTERS) (by exact rfl))))) da_nil)))))
theorem ok_is_name {f : Addr} {fd : FuncData} (F : Fun K "is_name" "is_name" st_is_name f fd) (hb : Binds K fd ["thing"] []) (hm : mg "is_name" = some (.ref f)) (B : Bt mg) (C : Ct K mg cl) : Df P w K mg base cl 1 "is_name" ["thing"] m_is_name :=
  ⟨f, fd, fn_is_name F B C, hm, F.kp, hb⟩
abbrev st_is_code : Stmt := topS 14
abbrev nm_is_code : List Str := ["thing", "sign"]
def ss_is_code : Scope := scp [("thing", .local), ("isinstance", .globalImplicit), ("str", .globalImplicit), ("len", .globalImplicit), ("all", .globalImplicit)] [("fast", .str "thing"), ("fast", .str "sign")]
theorem sc_is_code : FnScope nm_is_code ["thing"] ss_is_code := ⟨rfl, rfl, rfl, by decide +kernel, rfl, by decide +kernel, by decide +kernel⟩
def g_is_code : Stm := (sRet (vAnd (fIsi isStrD (fV 0)) (vAnd (fChain gLe gLe (fC (.int 4)) (fN gLen (fCons (fV 0) fNil)) (fC (.int 6))) (fN gAll (fCons (fFrz (fComp (fItems (fV 0)) (tgName 1) fYes (f2 (gInX false) (fV 1) (fC (.str "0123456789"))) [1])) fNil)))))
def m_is_code : List D → Store → Res D := mOf 2 g_is_code
theorem fn_is_code {f : Addr} {fd : FuncData} (F : Fun K "is_code" "is_code" st_is_code f fd) (B : Bt mg) (C : Ct K mg cl) : FnOk P w K mg base (L2.CX P w) 1 f fd ["thing"] (spM K cl 1 m_is_code) :=
  Fun.fn (k := 0) (g := g_is_code) F (by rfl) (sc := ss_is_code) (by rfl) (by rfl) sc_is_code fun cdv A outer s H E e hr => by
    refine dss_one ?_
    refine ds_ret ?_
    exact (de_and (de_isi isT_str (de_v 0 (pv 0)) (by exact rfl) B.isinstance (by exact rfl) B.str bb_str) (de_and (de_chain o_le o_le de_int (de_callB c_len (by exact rfl) B.len bb_len (da_cons (de_v 0 (pv 0)) da_nil)) de_int) (de_one (de_callB (c_all (by exact rfl)) (by exact rfl) B.all bb_all (da_cons (DL.de (dl_comp (by exact rfl) sc_is_code.nd (di_seq (de_v 0 (pv 0))) (by exact blkOk_by (N := nm_is_code) (sc := ss_is_code) (own := [("sign", 1)]) (by decide +kernel)) (fun _ _ _ _ _ => (eg_name (i := 1) (by decide) sc_is_code.nd (by exact rfl) (by first | exact Or.inl rfl | exact Or.inr rfl))) (fun _ _ _ _ _ => dts_nil) (fun _ _ _ _ _ => (de_cmp (o_inX (u65 hr)) (de_v 1 (pv 1)) (de_gstr' (by exact rfl) C.c_FIGURES) (by exact rfl))))) da_nil)))))
theorem ok_is_code {f : Addr} {fd : FuncData} (F : Fun K "is_code" "is_code" st_is_code f fd) (hb : Binds K fd ["thing"] []) (hm : mg "is_code" = some (.ref f)) (B : Bt mg) (C : Ct K mg cl) : Df P w K mg base cl 1 "is_code" ["thing"] m_is_code :=
  ⟨f, fd, fn_is_code F B C, hm, F.kp, hb⟩
abbrev st_are_rights : Stmt := topS 15
abbrev nm_are_rights : List Str := ["thing"]
def ss_are_rights : Scope := scp [("thing", .local), ("isinstance", .globalImplicit), ("tuple", .globalImplicit), ("RIGHTS", .globalImplicit)] []
theorem sc_are_rights : FnScope nm_are_rights ["thing"] ss_are_rights := ⟨rfl, rfl, rfl, by decide +kernel, rfl, by decide +kernel, by decide +kernel⟩
def g_are_rights : Stm := (sRet (vAnd (fIsi isTupD (fV 0)) (f2 (gInX false) (fV 0) (fTup (fCons (fTup fNil) (fCons (fTup (fCons (fC (.str "lift")) fNil)) (fCons (fTup (fCons (fC (.str "set")) fNil)) (fCons (fC (.tup [(.str "lift"), (.str "set")])) fNil))))))))
def m_are_rights : List D → Store → Res D := mOf 1 g_are_rights
theorem fn_are_rights {f : Addr} {fd : FuncData} (F : Fun K "are_rights" "are_rights" st_are_rights f fd) (B : Bt mg) (C : Ct K mg cl) : FnOk P w K mg base (L2.CX P w) 1 f fd ["thing"] (spM K cl 1 m_are_rights) :=
  Fun.fn (k := 0) (g := g_are_rights) F (by rfl) (sc := ss_are_rights) (by rfl) (by rfl) sc_are_rights fun cdv A outer s H E e hr => by
    refine dss_one ?_
    refine ds_ret ?_
    exact (de_and (de_isi isT_tup (de_v 0 (pv 0)) (by exact rfl) B.isinstance (by exact rfl) B.tuple bb_tuple) (de_one (de_cmp (o_inX (u65 hr)) (de_v 0 (pv 0)) (de_tup (da_cons (de_tup da_nil) (da_cons (de_tup (da_cons de_str da_nil)) (da_cons (de_tup (da_cons de_str da_nil)) (da_cons (de_gtup' (by exact rfl) C.c_RIGHTS) da_nil))))) (by exact rfl))))
theorem ok_are_rights {f : Addr} {fd : FuncData} (F : Fun K "are_rights" "are_rights" st_are_rights f fd) (hb : Binds K fd ["thing"] []) (hm : mg "are_rights" = some (.ref f)) (B : Bt mg) (C : Ct K mg cl) : Df P w K mg base cl 1 "are_rights" ["thing"] m_are_rights :=
  ⟨f, fd, fn_are_rights F B C, hm, F.kp, hb⟩
abbrev st_Codes_who : Stmt := inClass (topS 16) 3
abbrev nm_Codes_who : List Str := ["self", "code", "some", "name"]
def ss_Codes_who : Scope := scp [("self", .cell), ("code", .cell), ("some", .local)] [("fast", .str "self"), ("fast", .str "code"), ("fast", .str "name"), ("fast", .str "some")]
theorem sc_Codes_who : FnScope nm_Codes_who ["self", "code"] ss_Codes_who := ⟨rfl, rfl, rfl, by decide +kernel, rfl, by decide +kernel, by decide +kernel⟩
def g_Codes_who : Stm := (sSeq (sSet 2 (fFrz (fComp (fItems (fFld "Codes" "rows" (fV 0))) (tgName 3) (fB (f2 (gEq false) (f2 gIx (f2 gIx (fFld "Codes" "rows" (fV 0)) (fV 3)) (fC (.int 0))) (fV 1))) (fV 3) [3])))
    (sRet (fIf (fB (f2 (gEq true) (fV 2) (fLst fNil))) (f2 gIx (fV 2) (fC (.int 0))) (fC .non))))
def m_Codes_who : List D → Store → Res D := mOf 4 g_Codes_who
theorem fn_Codes_who {f : Addr} {fd : FuncData} (F : Fun K "who" "Codes.who" st_Codes_who f fd) (B : Bt mg) (C : Ct K mg cl) : FnOk P w K mg base (L2.CX P w) 1 f fd ["self", "code"] (spM K cl 2 m_Codes_who) :=
  Fun.fn (k := 0) (g := g_Codes_who) F (by rfl) (sc := ss_Codes_who) (by rfl) (by rfl) sc_Codes_who fun cdv A outer s H E e hr => by
    refine dss_cons ?_ ?_
    · exact ds_setLc (i := 2) (by exact rfl) sc_Codes_who.nd (by exact rfl) (by exact rfl) (by exact sw_true rfl rfl rfl (by decide +kernel)) (di_seq (de_fld C.k_Codes (by decide) (de_v 0 (pv 0)))) (by exact blkOk_by (N := nm_Codes_who) (sc := ss_Codes_who) (own := [("name", 3)]) (by decide +kernel)) (fun _ _ _ _ _ => (eg_name (i := 3) (by decide) sc_Codes_who.nd (by exact rfl) (by first | exact Or.inl rfl | exact Or.inr rfl))) (fun _ _ _ _ _ => (dts_one (dt_cmp (o_eq (u64 hr)) (de_ix (u1 hr) (de_ix (u1 hr) (de_fld C.k_Codes (by decide) (de_v 0 (pv 0))) (de_v 3 (pv 3))) de_int) (de_v 1 (pv 1)) (nomark _)))) (fun _ _ _ _ _ => (de_v 3 (pv 3)))
    refine dss_one ?_
    refine ds_ret ?_
    exact (de_ifExp (dt_cmp (o_ne (u64 hr)) (de_v 2 (pv 2)) (de_lst da_nil) (nomark _)) (de_ix (u1 hr) (de_v 2 (pv 2)) de_int) de_non)
theorem ok_Codes_who {f : Addr} {fd : FuncData} (F : Fun K "who" "Codes.who" st_Codes_who f fd) (hb : Binds K fd ["self", "code"] []) (hm : Meth K (cl "Codes") "who" f) (B : Bt mg) (C : Ct K mg cl) : DfM P w K mg base cl 1 "Codes" "who" ["self", "code"] m_Codes_who :=
  ⟨f, fd, fn_Codes_who F B C, hm, hb⟩
abbrev st_Codes_give : Stmt := inClass (topS 16) 1
abbrev nm_Codes_give : List Str := ["self", "name", "code", "rights", "more"]
def ss_Codes_give : Scope := scp [("self", .local), ("name", .local), ("code", .local), ("rights", .local), ("more", .local), ("is_name", .globalImplicit), ("NoName", .globalImplicit), ("is_code", .globalImplicit), ("NoCode", .globalImplicit), ("are_rights", .globalImplicit), ("NoRight", .globalImplicit), ("Taken", .globalImplicit), ("dict", .globalImplicit), ("len", .globalImplicit)] []
theorem sc_Codes_give : FnScope nm_Codes_give ["self", "name", "code", "rights"] ss_Codes_give := ⟨rfl, rfl, rfl, by decide +kernel, rfl, by decide +kernel, by decide +kernel⟩
def g_Codes_give : Stm := (sSeq (sIf (fNot (fB (fM 1 m_is_name (fCons (fV 1) fNil)))) (sRaise "NoName") sNil)
    (sSeq (sIf (fNot (fB (fM 1 m_is_code (fCons (fV 2) fNil)))) (sRaise "NoCode") sNil)
    (sSeq (sIf (fNot (fB (fM 1 m_are_rights (fCons (fV 3) fNil)))) (sRaise "NoRight") sNil)
    (sSeq (sIf (fOr (fB (f2 (gInX false) (fV 1) (fFld "Codes" "rows" (fV 0)))) (fB (f2 (gIs true) (fMeth "Codes" "who" 2 m_Codes_who (fV 0) (fCons (fV 2) fNil)) (fC .non)))) (sRaise "Taken") sNil)
    (sSeq (sSetOwnD 4 (fDict (fCons (fFld "Codes" "rows" (fV 0)) fNil)))
    (sSeq (sPutOwnD 4 (fV 1) (fTup (fCons (fV 2) (fCons (fV 3) fNil))))
    (sFreeze 4 (sSeq (sFldSet "Codes" "rows" (fV 0) (fV 4))
    (sRet (fN gLen (fCons (fV 4) fNil)))))))))))
def m_Codes_give : List D → Store → Res D := mOf 5 g_Codes_give
theorem fn_Codes_give {f : Addr} {fd : FuncData} (F : Fun K "give" "Codes.give" st_Codes_give f fd) (B : Bt mg) (C : Ct K mg cl) (d_is_name : Df P w K mg base cl 1 "is_name" ["thing"] m_is_name) (d_is_code : Df P w K mg base cl 1 "is_code" ["thing"] m_is_code) (d_are_rights : Df P w K mg base cl 1 "are_rights" ["thing"] m_are_rights) (d_Codes_who : DfM P w K mg base cl 1 "Codes" "who" ["self", "code"] m_Codes_who) : FnOk P w K mg base (L2.CX P w) 2 f fd ["self", "name", "code", "rights"] (spM K cl 4 m_Codes_give) :=
  Fun.fn (k := 1) (g := g_Codes_give) F (by rfl) (sc := ss_Codes_give) (by rfl) (by rfl) sc_Codes_give fun cdv A outer s H E e hr => by
    refine dss_cons ?_ ?_
    · refine ds_if ?_ ?_ ?_
      · exact (dt_not (dt_val (de_call d_is_name hr (by decide) (by exact rfl) (by exact takes_of rfl rfl rfl rfl) (da_cons (de_v 1 (pv 1)) da_nil))))
      · refine dss_one ?_
        exact ds_raise C.x_NoName (by exact rfl) (by exact takes_of rfl rfl rfl rfl) (by exact rfl)
      · exact dss_nil
    refine dss_cons ?_ ?_
    · refine ds_if ?_ ?_ ?_
      · exact (dt_not (dt_val (de_call d_is_code hr (by decide) (by exact rfl) (by exact takes_of rfl rfl rfl rfl) (da_cons (de_v 2 (pv 2)) da_nil))))
      · refine dss_one ?_
        exact ds_raise C.x_NoCode (by exact rfl) (by exact takes_of rfl rfl rfl rfl) (by exact rfl)
      · exact dss_nil
    refine dss_cons ?_ ?_
    · refine ds_if ?_ ?_ ?_
      · exact (dt_not (dt_val (de_call d_are_rights hr (by decide) (by exact rfl) (by exact takes_of rfl rfl rfl rfl) (da_cons (de_v 3 (pv 3)) da_nil))))
      · refine dss_one ?_
        exact ds_raise C.x_NoRight (by exact rfl) (by exact takes_of rfl rfl rfl rfl) (by exact rfl)
      · exact dss_nil
    refine dss_cons ?_ ?_
    · refine ds_if ?_ ?_ ?_
      · exact (DW.pt (dw_or (dt_cmp (o_inX (u65 hr)) (de_v 1 (pv 1)) (de_fld C.k_Codes (by decide) (de_v 0 (pv 0))) (by exact rfl)) (dw_or1 (dt_cmp o_isnot (de_meth d_Codes_who C.k_Codes hr (by decide) (by exact takes_of rfl rfl rfl rfl) (de_v 0 (pv 0)) (da_cons (de_v 2 (pv 2)) da_nil)) de_non (nomark _)))))
      · refine dss_one ?_
        exact ds_raise C.x_Taken (by exact rfl) (by exact takes_of rfl rfl rfl rfl) (by exact rfl)
      · exact dss_nil
    refine dss_cons ?_ ?_
    · refine ds_setOwnD (i := 4) sc_Codes_give.nd (by exact rfl) (by exact (Or.inl rfl)) ?_
      exact (dd_dict (da_cons (de_fld C.k_Codes (by decide) (de_v 0 (pv 0))) da_nil) (by exact rfl) B.dict)
    refine dss_cons ?_ ?_
    · exact ds_putOwnD (u1 hr) (pv 4) (de_v 1 (pv 1)) (de_tup (da_cons (de_v 2 (pv 2)) (da_cons (de_v 3 (pv 3)) da_nil)))
    refine dss_freeze 4 ?_
    refine dss_cons ?_ ?_
    · exact ds_fld C.k_Codes (by decide) (de_v 0 (pv 0)) (de_v 4 (pv 4))
    refine dss_one ?_
    refine ds_ret ?_
    exact (de_callB c_len (by exact rfl) B.len bb_len (da_cons (de_v 4 (pv 4)) da_nil))
theorem ok_Codes_give {f : Addr} {fd : FuncData} (F : Fun K "give" "Codes.give" st_Codes_give f fd) (hb : Binds K fd ["self", "name", "code", "rights"] []) (hm : Meth K (cl "Codes") "give" f) (B : Bt mg) (C : Ct K mg cl) (d_is_name : Df P w K mg base cl 1 "is_name" ["thing"] m_is_name) (d_is_code : Df P w K mg base cl 1 "is_code" ["thing"] m_is_code) (d_are_rights : Df P w K mg base cl 1 "are_rights" ["thing"] m_are_rights) (d_Codes_who : DfM P w K mg base cl 1 "Codes" "who" ["self", "code"] m_Codes_who) : DfM P w K mg base cl 2 "Codes" "give" ["self", "name", "code", "rights"] m_Codes_give :=
  ⟨f, fd, fn_Codes_give F B C d_is_name d_is_code d_are_rights d_Codes_who, hm, hb⟩
abbrev st_Codes_locked_at : Stmt := inClass (topS 16) 5
abbrev nm_Codes_locked_at : List Str := ["self", "moment"]
def ss_Codes_locked_at : Scope := scp [("self", .local), ("moment", .local)] []
theorem sc_Codes_locked_at : FnScope nm_Codes_locked_at ["self", "moment"] ss_Codes_locked_at := ⟨rfl, rfl, rfl, by decide +kernel, rfl, by decide +kernel, by decide +kernel⟩
def g_Codes_locked_at : Stm := (sRet (fChain gLe gLt (fFld "Codes" "since" (fV 0)) (fV 1) (fFld "Codes" "shut" (fV 0))))
def m_Codes_locked_at : List D → Store → Res D := mOf 2 g_Codes_locked_at
theorem fn_Codes_locked_at {f : Addr} {fd : FuncData} (F : Fun K "locked_at" "Codes.locked_at" st_Codes_locked_at f fd) (B : Bt mg) (C : Ct K mg cl) : FnOk P w K mg base (L2.CX P w) 1 f fd ["self", "moment"] (spM K cl 2 m_Codes_locked_at) :=
  Fun.fn (k := 0) (g := g_Codes_locked_at) F (by rfl) (sc := ss_Codes_locked_at) (by rfl) (by rfl) sc_Codes_locked_at fun cdv A outer s H E e hr => by
    refine dss_one ?_
    refine ds_ret ?_
    exact (de_chain o_le (o_lt (u64 hr)) (de_fld C.k_Codes (by decide) (de_v 0 (pv 0))) (de_v 1 (pv 1)) (de_fld C.k_Codes (by decide) (de_v 0 (pv 0))))
theorem ok_Codes_locked_at {f : Addr} {fd : FuncData} (F : Fun K "locked_at" "Codes.locked_at" st_Codes_locked_at f fd) (hb : Binds K fd ["self", "moment"] []) (hm : Meth K (cl "Codes") "locked_at" f) (B : Bt mg) (C : Ct K mg cl) : DfM P w K mg base cl 1 "Codes" "locked_at" ["self", "moment"] m_Codes_locked_at :=
  ⟨f, fd, fn_Codes_locked_at F B C, hm, hb⟩
abbrev st_Codes_ask : Stmt := inClass (topS 16) 6
abbrev nm_Codes_ask : List Str := ["self", "code", "moment", "right", "name"]
def ss_Codes_ask : Scope := scp [("self", .local), ("code", .local), ("moment", .local), ("right", .local), ("name", .local), ("NoTime", .globalImplicit), ("Locked", .globalImplicit), ("Wrong", .globalImplicit), ("NoRight", .globalImplicit)] []
theorem sc_Codes_ask : FnScope nm_Codes_ask ["self", "code", "moment", "right"] ss_Codes_ask := ⟨rfl, rfl, rfl, by decide +kernel, rfl, by decide +kernel, by decide +kernel⟩
def g_Codes_ask : Stm := (sSeq (sIf (fB (f2 gLt (fV 2) (fFld "Codes" "last" (fV 0)))) (sRaise "NoTime") sNil)
    (sSeq (sIf (fB (fMeth "Codes" "locked_at" 2 m_Codes_locked_at (fV 0) (fCons (fV 2) fNil))) (sRaise "Locked") sNil)
    (sSeq (sFldSet "Codes" "last" (fV 0) (fV 2))
    (sSeq (sSet 4 (fMeth "Codes" "who" 2 m_Codes_who (fV 0) (fCons (fV 1) fNil)))
    (sSeq (sIf (fB (f2 (gIs false) (fV 4) (fC .non))) (sSeq (sFldSet "Codes" "misses" (fV 0) (f2 gAdd (fFld "Codes" "misses" (fV 0)) (fC (.int 1))))
    (sSeq (sIf (fB (f2 gGe (fFld "Codes" "misses" (fV 0)) (fFld "Codes" "tries" (fV 0)))) (sSeq (sFldSet "Codes" "misses" (fV 0) (fC (.int 0)))
    (sSeq (sFldSet "Codes" "since" (fV 0) (fV 2))
    (sFldSet "Codes" "shut" (fV 0) (f2 gAdd (fV 2) (fFld "Codes" "rest" (fV 0)))))) sNil)
    (sRaise "Wrong"))) sNil)
    (sSeq (sFldSet "Codes" "misses" (fV 0) (fC (.int 0)))
    (sSeq (sIf (fB (f2 (gInX true) (fV 3) (f2 gIx (f2 gIx (fFld "Codes" "rows" (fV 0)) (fV 4)) (fC (.int 1))))) (sRaise "NoRight") sNil)
    (sRet (fV 4)))))))))
def m_Codes_ask : List D → Store → Res D := mOf 5 g_Codes_ask
theorem fn_Codes_ask {f : Addr} {fd : FuncData} (F : Fun K "ask" "Codes.ask" st_Codes_ask f fd) (B : Bt mg) (C : Ct K mg cl) (d_Codes_locked_at : DfM P w K mg base cl 1 "Codes" "locked_at" ["self", "moment"] m_Codes_locked_at) (d_Codes_who : DfM P w K mg base cl 1 "Codes" "who" ["self", "code"] m_Codes_who) : FnOk P w K mg base (L2.CX P w) 2 f fd ["self", "code", "moment", "right"] (spM K cl 4 m_Codes_ask) :=
  Fun.fn (k := 1) (g := g_Codes_ask) F (by rfl) (sc := ss_Codes_ask) (by rfl) (by rfl) sc_Codes_ask fun cdv A outer s H E e hr => by
    refine dss_cons ?_ ?_
    · refine ds_if ?_ ?_ ?_
      · exact (dt_cmp (o_lt (u64 hr)) (de_v 2 (pv 2)) (de_fld C.k_Codes (by decide) (de_v 0 (pv 0))) (nomark _))
      · refine dss_one ?_
        exact ds_raise C.x_NoTime (by exact rfl) (by exact takes_of rfl rfl rfl rfl) (by exact rfl)
      · exact dss_nil
    refine dss_cons ?_ ?_
    · refine ds_if ?_ ?_ ?_
      · exact (dt_val (de_meth d_Codes_locked_at C.k_Codes hr (by decide) (by exact takes_of rfl rfl rfl rfl) (de_v 0 (pv 0)) (da_cons (de_v 2 (pv 2)) da_nil)))
      · refine dss_one ?_
        exact ds_raise C.x_Locked (by exact rfl) (by exact takes_of rfl rfl rfl rfl) (by exact rfl)
      · exact dss_nil
    refine dss_cons ?_ ?_
    · exact ds_fld C.k_Codes (by decide) (de_v 0 (pv 0)) (de_v 2 (pv 2))
    refine dss_cons ?_ ?_
    · refine ds_set (i := 4) sc_Codes_ask.nd (by exact rfl) (by exact (Or.inl rfl)) ?_
      exact (de_meth d_Codes_who C.k_Codes hr (by decide) (by exact takes_of rfl rfl rfl rfl) (de_v 0 (pv 0)) (da_cons (de_v 1 (pv 1)) da_nil))
    refine dss_cons ?_ ?_
    · refine ds_if ?_ ?_ ?_
      · exact (dt_cmp o_is (de_v 4 (pv 4)) de_non (nomark _))
      · refine dss_cons ?_ ?_
        · exact ds_fld C.k_Codes (by decide) (de_v 0 (pv 0)) (de_bin o_add (de_fld C.k_Codes (by decide) (de_v 0 (pv 0))) de_int)
        refine dss_cons ?_ ?_
        · refine ds_if ?_ ?_ ?_
          · exact (dt_cmp o_ge (de_fld C.k_Codes (by decide) (de_v 0 (pv 0))) (de_fld C.k_Codes (by decide) (de_v 0 (pv 0))) (nomark _))
          · refine dss_cons ?_ ?_
            · exact ds_fld C.k_Codes (by decide) (de_v 0 (pv 0)) de_int
            refine dss_cons ?_ ?_
            · exact ds_fld C.k_Codes (by decide) (de_v 0 (pv 0)) (de_v 2 (pv 2))
            refine dss_one ?_
            exact ds_fld C.k_Codes (by decide) (de_v 0 (pv 0)) (de_bin o_add (de_v 2 (pv 2)) (de_fld C.k_Codes (by decide) (de_v 0 (pv 0))))
          · exact dss_nil
        refine dss_one ?_
        exact ds_raise C.x_Wrong (by exact rfl) (by exact takes_of rfl rfl rfl rfl) (by exact rfl)
      · exact dss_nil
    refine dss_cons ?_ ?_
    · exact ds_fld C.k_Codes (by decide) (de_v 0 (pv 0)) de_int
    refine dss_cons ?_ ?_
    · refine ds_if ?_ ?_ ?_
      · exact (dt_cmp (o_notinX (u65 hr)) (de_v 3 (pv 3)) (de_ix (u1 hr) (de_ix (u1 hr) (de_fld C.k_Codes (by decide) (de_v 0 (pv 0))) (de_v 4 (pv 4))) de_int) (by exact rfl))
      · refine dss_one ?_
        exact ds_raise C.x_NoRight (by exact rfl) (by exact takes_of rfl rfl rfl rfl) (by exact rfl)
      · exact dss_nil
    refine dss_one ?_
    refine ds_ret ?_
    exact (de_v 4 (pv 4))
theorem ok_Codes_ask {f : Addr} {fd : FuncData} (F : Fun K "ask" "Codes.ask" st_Codes_ask f fd) (hb : Binds K fd ["self", "code", "moment", "right"] []) (hm : Meth K (cl "Codes") "ask" f) (B : Bt mg) (C : Ct K mg cl) (d_Codes_locked_at : DfM P w K mg base cl 1 "Codes" "locked_at" ["self", "moment"] m_Codes_locked_at) (d_Codes_who : DfM P w K mg base cl 1 "Codes" "who" ["self", "code"] m_Codes_who) : DfM P w K mg base cl 2 "Codes" "ask" ["self", "code", "moment", "right"] m_Codes_ask :=
  ⟨f, fd, fn_Codes_ask F B C d_Codes_locked_at d_Codes_who, hm, hb⟩
abbrev st_law_word : Stmt := topS 20
abbrev nm_law_word : List Str := ["e", "flags"]
def ss_law_word : Scope := scp [("e", .local), ("flags", .local), ("isinstance", .globalImplicit), ("NoName", .globalImplicit), ("NoCode", .globalImplicit), ("NoRight", .globalImplicit), ("Taken", .globalImplicit), ("NoTime", .globalImplicit), ("Locked", .globalImplicit), ("Wrong", .globalImplicit), ("ValueError", .globalImplicit)] []
theorem sc_law_word : FnScope nm_law_word ["e"] ss_law_word := ⟨rfl, rfl, rfl, by decide +kernel, rfl, by decide +kernel, by decide +kernel⟩
def g_law_word (a : Addr) (c : Str) : Stm := (sSeq (sSet 1 (fLst (fCons (fAt 0 a fun S => .ok (.bl (isaX c "NoName")) S) (fCons (fAt 0 a fun S => .ok (.bl (isaX c "NoCode")) S) (fCons (fAt 0 a fun S => .ok (.bl (isaX c "NoRight")) S) (fCons (fAt 0 a fun S => .ok (.bl (isaX c "Taken")) S) fNil))))))
    (sSeq (sSet 1 (f2 gAdd (fV 1) (fLst (fCons (fAt 0 a fun S => .ok (.bl (isaX c "NoTime")) S) (fCons (fAt 0 a fun S => .ok (.bl (isaX c "Locked")) S) (fCons (fAt 0 a fun S => .ok (.bl (isaX c "Wrong")) S) fNil))))))
    (sSeq (sIf (fOr (fB (f2 (gEq true) (fMt gCountT (fV 1) (fCons (fC (.bl true)) fNil)) (fC (.int 1)))) (fNot (fB (fAt 0 a fun S => .ok (.bl true) S)))) (sRet (fTup (fCons (fC (.str "refused")) (fCons (fNeg (fC (.int 1))) fNil)))) sNil)
    (sRet (fTup (fCons (fC (.str "refused")) (fCons (fMt gIndexT (fV 1) (fCons (fC (.bl true)) fNil)) fNil)))))))
def m_law_word (c : Str) : Store → Res D := mOfE 2 0 (g_law_word 0 c)
theorem fn_law_word {f : Addr} {fd : FuncData} (F : Fun K "_law_word" "_law_word" st_law_word f fd) (B : Bt mg) (C : Ct K mg cl) {c : Str} (hc : c ∈ XS) {a : Addr} {oe : Obj} (hz : Zc (.ref (cl c)) none oe) (hf : ∃ vs, oe.data = .fields vs) : FnE P w K mg base 1 f fd ["e"] (a, oe) (spE K cl a (mOfE 2 a (g_law_word a c))) :=
  Fun.fnE (k := 0) (p := (a, oe)) (g := g_law_word a c) F (by rfl) (sc := ss_law_word) (by rfl) (by rfl) sc_law_word fun cdv A outer s H E e hr => by
    have hp : (a, oe) ∈ [(a, oe)] := List.mem_cons_self
    refine dss_cons ?_ ?_
    · refine ds_set (i := 1) sc_law_word.nd (by exact rfl) (by exact (Or.inl rfl)) ?_
      exact (de_lst (da_cons (de_isE (C.ec c hc) hp hz hf (pv 0) (pe_glob (v := .ref (cl "NoName")) (by exact rfl) C.x_NoName.g rfl) (fun _ h => h) (C.isa c hc "NoName" (by decide)) (by exact rfl) B.isinstance) (da_cons (de_isE (C.ec c hc) hp hz hf (pv 0) (pe_glob (v := .ref (cl "NoCode")) (by exact rfl) C.x_NoCode.g rfl) (fun _ h => h) (C.isa c hc "NoCode" (by decide)) (by exact rfl) B.isinstance) (da_cons (de_isE (C.ec c hc) hp hz hf (pv 0) (pe_glob (v := .ref (cl "NoRight")) (by exact rfl) C.x_NoRight.g rfl) (fun _ h => h) (C.isa c hc "NoRight" (by decide)) (by exact rfl) B.isinstance) (da_cons (de_isE (C.ec c hc) hp hz hf (pv 0) (pe_glob (v := .ref (cl "Taken")) (by exact rfl) C.x_Taken.g rfl) (fun _ h => h) (C.isa c hc "Taken" (by decide)) (by exact rfl) B.isinstance) da_nil)))))
    refine dss_cons ?_ ?_
    · refine ds_set (i := 1) sc_law_word.nd (by exact rfl) (by exact (Or.inl rfl)) ?_
      exact (de_bin o_add (de_v 1 (pv 1)) (de_lst (da_cons (de_isE (C.ec c hc) hp hz hf (pv 0) (pe_glob (v := .ref (cl "NoTime")) (by exact rfl) C.x_NoTime.g rfl) (fun _ h => h) (C.isa c hc "NoTime" (by decide)) (by exact rfl) B.isinstance) (da_cons (de_isE (C.ec c hc) hp hz hf (pv 0) (pe_glob (v := .ref (cl "Locked")) (by exact rfl) C.x_Locked.g rfl) (fun _ h => h) (C.isa c hc "Locked" (by decide)) (by exact rfl) B.isinstance) (da_cons (de_isE (C.ec c hc) hp hz hf (pv 0) (pe_glob (v := .ref (cl "Wrong")) (by exact rfl) C.x_Wrong.g rfl) (fun _ h => h) (C.isa c hc "Wrong" (by decide)) (by exact rfl) B.isinstance) da_nil)))))
    refine dss_cons ?_ ?_
    · refine ds_if ?_ ?_ ?_
      · exact (DW.pt (dw_or (dt_cmp (o_ne (h64 hr)) (de_count (de_v 1 (pv 1)) (da_cons de_bl da_nil)) de_int (nomark _)) (dw_or1 (dt_not (dt_val (de_isE (C.ec c hc) hp hz hf (pv 0) (pe_bltn (v := .ty "ValueError") (by exact rfl) C.noVE (by decide +kernel) rfl) (fun _ h => h) (C.isv c hc) (by exact rfl) B.isinstance))))))
      · refine dss_one ?_
        refine ds_ret ?_
        exact (de_tup (da_cons de_str (da_cons (de_neg de_int) da_nil)))
      · exact dss_nil
    refine dss_one ?_
    refine ds_ret ?_
    exact (de_tup (da_cons de_str (da_cons (de_index (de_v 1 (pv 1)) (da_cons de_bl da_nil)) da_nil)))
theorem ok_law_word {f : Addr} {fd : FuncData} (F : Fun K "_law_word" "_law_word" st_law_word f fd) (hb : Binds K fd ["e"] []) (hm : mg "_law_word" = some (.ref f)) (B : Bt mg) (C : Ct K mg cl) (ev : ∀ a c S, c ∈ XS → mOfE 2 a (g_law_word a c) S = m_law_word c S) : DfE P w K mg base cl 1 "_law_word" "e" XS m_law_word :=
  ⟨f, fd, fun c hc p hz hf => by
    have := fn_law_word (P := P) (w := w) (base := base) F B C hc (a := p.1) (oe := p.2) hz hf
    rw [show mOfE 2 p.1 (g_law_word p.1 c) = m_law_word c from funext fun S => ev p.1 c S hc] at this
    exact this, hm, F.kp, hb⟩
abbrev st_law_told : Stmt := topS 21
abbrev nm_law_told : List Str := ["codes", "code", "moment", "right", "e"]
def ss_law_told : Scope := scp [("codes", .local), ("code", .local), ("moment", .local), ("right", .local), ("e", .local), ("BoltError", .globalImplicit), ("_law_word", .globalImplicit)] []
theorem sc_law_told : FnScope nm_law_told ["codes", "code", "moment", "right"] ss_law_told := ⟨rfl, rfl, rfl, by decide +kernel, rfl, by decide +kernel, by decide +kernel⟩
def b_law_told_1 : Stm := (sRet (fMeth "Codes" "ask" 4 m_Codes_ask (fV 0) (fCons (fV 1) (fCons (fV 2) (fCons (fV 3) fNil)))))
def g_law_told : Stm := (sTry b_law_told_1 4 XS fun c _ S => m_law_word c S)
def m_law_told : List D → Store → Res D := mOf 5 g_law_told
theorem fn_law_told {f : Addr} {fd : FuncData} (F : Fun K "_law_told" "_law_told" st_law_told f fd) (B : Bt mg) (C : Ct K mg cl) (d_Codes_ask : DfM P w K mg base cl 2 "Codes" "ask" ["self", "code", "moment", "right"] m_Codes_ask) (d_law_word : DfE P w K mg base cl 1 "_law_word" "e" XS m_law_word) : FnOk P w K mg base (L2.CX P w) 3 f fd ["codes", "code", "moment", "right"] (spM K cl 4 m_law_told) :=
  Fun.fn (k := 2) (g := g_law_told) F (by rfl) (sc := ss_law_told) (by rfl) (by rfl) sc_law_told fun cdv A outer s H E e hr => by
    refine dss_one ?_
    refine ds_try (i := 4) (cs := XS) (fe := fun a c => fAt 4 a (m_law_word c)) (FE := fun c _ S => m_law_word c S) ?_ ?_ ?_ (fun c hc => C.exm c hc) (by exact rfl) (by exact rfl) sc_law_told.nd (by exact rfl) (by exact rfl) ⟨(by exact rfl), by decide, .inl C.x_BoltError.g⟩
    · intro W pn xe tk po
      refine dss_one ?_
      refine ds_ret ?_
      exact (de_meth d_Codes_ask C.k_Codes hr (by decide) tk (de_v 0 (pv 0)) (da_cons (de_v 1 (pv 1)) (da_cons (de_v 2 (pv 2)) (da_cons (de_v 3 (pv 3)) da_nil))))
    · intro a oe c pn hc hz hf
      exact de_callE d_law_word hc hz hf List.mem_cons_self (hot_of hr _) (by decide) (by exact rfl) takes0 (pv 4)
    · intro a c ρ S hi _
      exact fAt_set hi
theorem ok_law_told {f : Addr} {fd : FuncData} (F : Fun K "_law_told" "_law_told" st_law_told f fd) (hb : Binds K fd ["codes", "code", "moment", "right"] []) (hm : mg "_law_told" = some (.ref f)) (B : Bt mg) (C : Ct K mg cl) (d_Codes_ask : DfM P w K mg base cl 2 "Codes" "ask" ["self", "code", "moment", "right"] m_Codes_ask) (d_law_word : DfE P w K mg base cl 1 "_law_word" "e" XS m_law_word) : Df P w K mg base cl 3 "_law_told" ["codes", "code", "moment", "right"] m_law_told :=
  ⟨f, fd, fn_law_told F B C d_Codes_ask d_law_word, hm, F.kp, hb⟩
abbrev st_law_is_out : Stmt := topS 22
abbrev nm_law_is_out : List Str := ["codes", "moment", "told", "code"]
def ss_law_is_out : Scope := scp [("codes", .cell), ("moment", .cell), ("told", .local)] [("fast", .str "codes"), ("fast", .str "moment"), ("fast", .str "code"), ("fast", .str "told")]
theorem sc_law_is_out : FnScope nm_law_is_out ["codes", "moment"] ss_law_is_out := ⟨rfl, rfl, rfl, by decide +kernel, rfl, by decide +kernel, by decide +kernel⟩
def g_law_is_out : Stm := (sSeq (sSet 2 (fFrz (fComp (fItems (fTup (fCons (fC (.str "1111")) (fCons (fC (.str "3333")) fNil)))) (tgName 3) fYes (fM 4 m_law_told (fCons (fV 0) (fCons (fV 3) (fCons (fV 1) (fCons (fC (.str "lift")) fNil))))) [3])))
    (sRet (vAnd (fMeth "Codes" "locked_at" 2 m_Codes_locked_at (fV 0) (fCons (fV 1) fNil)) (f2 (gEq false) (fV 2) (f2 gMulX (fLst (fCons (fTup (fCons (fC (.str "refused")) (fCons (fC (.int 5)) fNil))) fNil)) (fC (.int 2)))))))
def m_law_is_out : List D → Store → Res D := mOf 4 g_law_is_out
theorem fn_law_is_out {f : Addr} {fd : FuncData} (F : Fun K "_law_is_out" "_law_is_out" st_law_is_out f fd) (B : Bt mg) (C : Ct K mg cl) (d_law_told : Df P w K mg base cl 3 "_law_told" ["codes", "code", "moment", "right"] m_law_told) (d_Codes_locked_at : DfM P w K mg base cl 1 "Codes" "locked_at" ["self", "moment"] m_Codes_locked_at) : FnOk P w K mg base (L2.CX P w) 4 f fd ["codes", "moment"] (spM K cl 2 m_law_is_out) :=
  Fun.fn (k := 3) (g := g_law_is_out) F (by rfl) (sc := ss_law_is_out) (by rfl) (by rfl) sc_law_is_out fun cdv A outer s H E e hr => by
    refine dss_cons ?_ ?_
    · exact ds_setLc (i := 2) (by exact rfl) sc_law_is_out.nd (by exact rfl) (by exact rfl) (by exact sw_true rfl rfl rfl (by decide +kernel)) (di_seq (de_tup (da_cons de_str (da_cons de_str da_nil)))) (by exact blkOk_by (N := nm_law_is_out) (sc := ss_law_is_out) (own := [("code", 3)]) (by decide +kernel)) (fun _ _ _ _ _ => (eg_name (i := 3) (by decide) sc_law_is_out.nd (by exact rfl) (by first | exact Or.inl rfl | exact Or.inr rfl))) (fun _ _ _ _ _ => dts_nil) (fun _ _ _ _ _ => (de_call d_law_told hr (by decide) (by exact rfl) takes0 (da_cons (de_v 0 (pv 0)) (da_cons (de_v 3 (pv 3)) (da_cons (de_v 1 (pv 1)) (da_cons de_str da_nil))))))
    refine dss_one ?_
    refine ds_ret ?_
    exact (de_and (de_meth d_Codes_locked_at C.k_Codes hr (by decide) (by exact takes_of rfl rfl rfl rfl) (de_v 0 (pv 0)) (da_cons (de_v 1 (pv 1)) da_nil)) (de_one (de_cmp (o_eq (u64 hr)) (de_v 2 (pv 2)) (de_bin o_mulX (de_lst (da_cons (de_tup (da_cons de_str (da_cons de_int da_nil))) da_nil)) de_int) (nomark _))))
theorem ok_law_is_out {f : Addr} {fd : FuncData} (F : Fun K "_law_is_out" "_law_is_out" st_law_is_out f fd) (hb : Binds K fd ["codes", "moment"] []) (hm : mg "_law_is_out" = some (.ref f)) (B : Bt mg) (C : Ct K mg cl) (d_law_told : Df P w K mg base cl 3 "_law_told" ["codes", "code", "moment", "right"] m_law_told) (d_Codes_locked_at : DfM P w K mg base cl 1 "Codes" "locked_at" ["self", "moment"] m_Codes_locked_at) : Df P w K mg base cl 4 "_law_is_out" ["codes", "moment"] m_law_is_out :=
  ⟨f, fd, fn_law_is_out F B C d_law_told d_Codes_locked_at, hm, F.kp, hb⟩
abbrev st_Codes_take : Stmt := inClass (topS 16) 2
abbrev nm_Codes_take : List Str := ["self", "name", "found", "one"]
def ss_Codes_take : Scope := scp [("self", .cell), ("name", .cell), ("found", .local), ("NoName", .globalImplicit), ("dict", .globalImplicit)] [("fast", .str "self"), ("fast", .str "name"), ("fast", .str "found"), ("fast", .str "one")]
theorem sc_Codes_take : FnScope nm_Codes_take ["self", "name"] ss_Codes_take := ⟨rfl, rfl, rfl, by decide +kernel, rfl, by decide +kernel, by decide +kernel⟩
def g_Codes_take : Stm := (sSeq (sIf (fB (f2 (gInX true) (fV 1) (fFld "Codes" "rows" (fV 0)))) (sRaise "NoName") sNil)
    (sSeq (sSet 2 (f2 gIx (fFld "Codes" "rows" (fV 0)) (fV 1)))
    (sSeq (sFldSet "Codes" "rows" (fV 0) (fN gDictP (fCons (fFrz (fComp (fItems (fFld "Codes" "rows" (fV 0))) (tgName 3) (fB (f2 (gEq true) (fV 3) (fV 1))) (fTup (fCons (fV 3) (fCons (f2 gIx (fFld "Codes" "rows" (fV 0)) (fV 3)) fNil))) [3])) fNil)))
    (sRet (fV 2)))))
def m_Codes_take : List D → Store → Res D := mOf 4 g_Codes_take
theorem fn_Codes_take {f : Addr} {fd : FuncData} (F : Fun K "take" "Codes.take" st_Codes_take f fd) (B : Bt mg) (C : Ct K mg cl) : FnOk P w K mg base (L2.CX P w) 1 f fd ["self", "name"] (spM K cl 2 m_Codes_take) :=
  Fun.fn (k := 0) (g := g_Codes_take) F (by rfl) (sc := ss_Codes_take) (by rfl) (by rfl) sc_Codes_take fun cdv A outer s H E e hr => by
    refine dss_cons ?_ ?_
    · refine ds_if ?_ ?_ ?_
      · exact (dt_cmp (o_notinX (u65 hr)) (de_v 1 (pv 1)) (de_fld C.k_Codes (by decide) (de_v 0 (pv 0))) (by exact rfl))
      · refine dss_one ?_
        exact ds_raise C.x_NoName (by exact rfl) (by exact takes_of rfl rfl rfl rfl) (by exact rfl)
      · exact dss_nil
    refine dss_cons ?_ ?_
    · refine ds_set (i := 2) sc_Codes_take.nd (by exact rfl) (by exact (Or.inl rfl)) ?_
      exact (de_ix (u1 hr) (de_fld C.k_Codes (by decide) (de_v 0 (pv 0))) (de_v 1 (pv 1)))
    refine dss_cons ?_ ?_
    · exact ds_fld C.k_Codes (by decide) (de_v 0 (pv 0)) (de_dictP (by exact rfl) (da_cons (DL.de (dl_comp (by exact rfl) sc_Codes_take.nd (di_seq (de_fld C.k_Codes (by decide) (de_v 0 (pv 0)))) (by exact blkOk_by (N := nm_Codes_take) (sc := ss_Codes_take) (own := [("one", 3)]) (by decide +kernel)) (fun _ _ _ _ _ => (eg_name (i := 3) (by decide) sc_Codes_take.nd (by exact rfl) (by first | exact Or.inl rfl | exact Or.inr rfl))) (fun _ _ _ _ _ => (dts_one (dt_cmp (o_ne (u64 hr)) (de_v 3 (pv 3)) (de_v 1 (pv 1)) (nomark _)))) (fun _ _ _ _ _ => (de_tup (da_cons (de_v 3 (pv 3)) (da_cons (de_ix (u1 hr) (de_fld C.k_Codes (by decide) (de_v 0 (pv 0))) (de_v 3 (pv 3))) da_nil)))))) da_nil) (by exact rfl) B.dict)
    refine dss_one ?_
    refine ds_ret ?_
    exact (de_v 2 (pv 2))
theorem ok_Codes_take {f : Addr} {fd : FuncData} (F : Fun K "take" "Codes.take" st_Codes_take f fd) (hb : Binds K fd ["self", "name"] []) (hm : Meth K (cl "Codes") "take" f) (B : Bt mg) (C : Ct K mg cl) : DfM P w K mg base cl 1 "Codes" "take" ["self", "name"] m_Codes_take :=
  ⟨f, fd, fn_Codes_take F B C, hm, hb⟩
abbrev st_Codes_names : Stmt := inClass (topS 16) 4
abbrev nm_Codes_names : List Str := ["self"]
def ss_Codes_names : Scope := scp [("self", .local), ("sorted", .globalImplicit)] []
theorem sc_Codes_names : FnScope nm_Codes_names ["self"] ss_Codes_names := ⟨rfl, rfl, rfl, by decide +kernel, rfl, by decide +kernel, by decide +kernel⟩
def g_Codes_names : Stm := (sRet (fN gSortedX (fCons (fFld "Codes" "rows" (fV 0)) fNil)))
def m_Codes_names : List D → Store → Res D := mOf 1 g_Codes_names
theorem fn_Codes_names {f : Addr} {fd : FuncData} (F : Fun K "names" "Codes.names" st_Codes_names f fd) (B : Bt mg) (C : Ct K mg cl) : FnOk P w K mg base (L2.CX P w) 1 f fd ["self"] (spM K cl 1 m_Codes_names) :=
  Fun.fn (k := 0) (g := g_Codes_names) F (by rfl) (sc := ss_Codes_names) (by rfl) (by rfl) sc_Codes_names fun cdv A outer s H E e hr => by
    refine dss_one ?_
    refine ds_ret ?_
    exact (de_callB (c_sortedX (by exact rfl)) (by exact rfl) B.sorted bb_sorted (da_cons (de_fld C.k_Codes (by decide) (de_v 0 (pv 0))) da_nil))
theorem ok_Codes_names {f : Addr} {fd : FuncData} (F : Fun K "names" "Codes.names" st_Codes_names f fd) (hb : Binds K fd ["self"] []) (hm : Meth K (cl "Codes") "names" f) (B : Bt mg) (C : Ct K mg cl) : DfM P w K mg base cl 1 "Codes" "names" ["self"] m_Codes_names :=
  ⟨f, fd, fn_Codes_names F B C, hm, hb⟩
abbrev st_law : Stmt := topS 23
abbrev nm_law : List Str := ["script", "tries", "rest", "codes", "moment", "turn", "k", "end", "here"]
def ss_law : Scope := scp [("script", .local), ("tries", .local), ("rest", .local), ("codes", .cell), ("moment", .local), ("turn", .local), ("k", .local), ("end", .local), ("_law_drawn", .globalImplicit), ("Codes", .globalImplicit), ("range", .globalImplicit), ("_law_told", .globalImplicit), ("str", .globalImplicit), ("all", .globalImplicit)] [("fast", .str "script"), ("fast", .str "tries"), ("fast", .str "rest"), ("fast", .str "codes"), ("fast", .str "moment"), ("fast", .str "turn"), ("fast", .str "k"), ("fast", .str "end"), ("fast", .str "here")]
theorem sc_law : FnScope nm_law ["script"] ss_law := ⟨rfl, rfl, rfl, by decide +kernel, rfl, by decide +kernel, by decide +kernel⟩
def b_law_1 : Stm := (sSeq (sIf (fB (f2 (gEq true) (fM 4 m_law_told (fCons (fV 3) (fCons (fC (.str "3333")) (fCons (fV 4) (fCons (fC (.str "lift")) fNil))))) (fTup (fCons (fC (.str "refused")) (fCons (fC (.int 6)) fNil))))) (sRet (fC (.bl false))) sNil)
    (sSeq (sIf (fB (fMeth "Codes" "locked_at" 2 m_Codes_locked_at (fV 3) (fCons (fV 4) fNil))) (sRet (fC (.bl false))) sNil)
    (sSet 4 (f2 gAdd (fV 4) (fM 3 m_law_drawn (fCons (fV 0) (fCons (f2 gAdd (fC (.int 10)) (fV 6)) (fCons (fC (.int 3)) fNil))))))))
def b_law_2 : Stm := (sSeq (sIf (fB (fMeth "Codes" "locked_at" 2 m_Codes_locked_at (fV 3) (fCons (fV 4) fNil))) (sRet (fC (.bl false))) sNil)
    (sIf (fB (f2 (gEq true) (fM 4 m_law_told (fCons (fV 3) (fCons (fC (.str "333333")) (fCons (fV 4) (fCons (fC (.str "set")) fNil))))) (fTup (fCons (fC (.str "refused")) (fCons (fC (.int 6)) fNil))))) (sRet (fC (.bl false))) sNil))
def b_law_3 : Stm := (sSeq (sFor (fI kRng1 (fCons (fM 3 m_law_drawn (fCons (fV 0) (fCons (f2 gAdd (fC (.int 3)) (fV 5)) (fCons (fV 1) fNil)))) fNil)) (tgName 6) b_law_1)
    (sSeq (sIf (fB (f2 (gEq true) (fM 4 m_law_told (fCons (fV 3) (fCons (fC (.str "2222")) (fCons (fV 4) (fCons (fC (.str "set")) fNil))))) (fTup (fCons (fC (.str "refused")) (fCons (fC (.int 2)) fNil))))) (sRet (fC (.bl false))) sNil)
    (sSeq (sIf (fB (f2 (gEq true) (fM 4 m_law_told (fCons (fV 3) (fCons (fC (.str "1111")) (fCons (fV 4) (fCons (fC (.str "set")) fNil))))) (fC (.str "ann")))) (sRet (fC (.bl false))) sNil)
    (sSeq (sFor (fI kRng1 (fCons (fV 1) fNil)) (tgName 6) b_law_2)
    (sSeq (sExpr (fMeth "Codes" "give" 4 m_Codes_give (fV 3) (fCons (f2 gAdd (fC (.str "cy")) (f2 gMulX (fC (.str "a")) (fV 5))) (fCons (f2 gAdd (fC (.str "444")) (fN gStr (fCons (fV 5) fNil))) (fCons (fTup fNil) fNil)))))
    (sSeq (sSet 7 (f2 gAdd (fV 4) (fV 2)))
    (sSeq (sIf (fNot (fB (fN gAll (fCons (fFrz (fComp (fItems (fTup (fCons (fV 4) (fCons (f2 gAdd (fV 4) (f2 gFdiv (fV 2) (fC (.int 2)))) (fCons (f2 gSub (fV 7) (fC (.int 1))) fNil))))) (tgName 8) fYes (fM 2 m_law_is_out (fCons (fV 3) (fCons (fV 8) fNil))) [8])) fNil)))) (sRet (fC (.bl false))) sNil)
    (sSeq (sIf (fOr (fB (fMeth "Codes" "locked_at" 2 m_Codes_locked_at (fV 3) (fCons (fV 7) fNil))) (fB (f2 (gEq true) (fM 4 m_law_told (fCons (fV 3) (fCons (fC (.str "1111")) (fCons (fV 7) (fCons (fC (.str "lift")) fNil))))) (fC (.str "ann"))))) (sRet (fC (.bl false))) sNil)
    (sSeq (sIf (fB (f2 (gEq true) (fM 4 m_law_told (fCons (fV 3) (fCons (fC (.str "2222")) (fCons (f2 gSub (fV 7) (fC (.int 1))) (fCons (fC (.str "lift")) fNil))))) (fTup (fCons (fC (.str "refused")) (fCons (fC (.int 4)) fNil))))) (sRet (fC (.bl false))) sNil)
    (sSet 4 (f2 gAdd (fV 7) (fC (.int 1)))))))))))))
def g_law : Stm := (sSeq (sSet 1 (f2 gAdd (fC (.int 1)) (fM 3 m_law_drawn (fCons (fV 0) (fCons (fC (.int 0)) (fCons (fC (.int 5)) fNil))))))
    (sSeq (sSet 2 (f2 gAdd (fC (.int 2)) (fM 3 m_law_drawn (fCons (fV 0) (fCons (fC (.int 1)) (fCons (fC (.int 50)) fNil))))))
    (sSeq (sSet 3 (fMake "Codes" 3 m_Codes_init (fCons (fV 1) (fCons (fV 2) fNil))))
    (sSeq (sExpr (fMeth "Codes" "give" 4 m_Codes_give (fV 3) (fCons (fC (.str "ann")) (fCons (fC (.str "1111")) (fCons (fTup (fCons (fC (.str "lift")) (fCons (fC (.str "set")) fNil))) fNil)))))
    (sSeq (sExpr (fMeth "Codes" "give" 4 m_Codes_give (fV 3) (fCons (fC (.str "bo")) (fCons (fC (.str "2222")) (fCons (fTup (fCons (fC (.str "lift")) fNil)) fNil)))))
    (sSeq (sSet 4 (fM 3 m_law_drawn (fCons (fV 0) (fCons (fC (.int 2)) (fCons (fC (.int 20)) fNil)))))
    (sSeq (sFor (fI kRng1 (fCons (fC (.int 2)) fNil)) (tgName 5) b_law_3)
    (sSeq (sIf (fB (f2 (gEq true) (fMeth "Codes" "take" 2 m_Codes_take (fV 3) (fCons (fC (.str "bo")) fNil)) (fTup (fCons (fC (.str "2222")) (fCons (fTup (fCons (fC (.str "lift")) fNil)) fNil))))) (sRet (fC (.bl false))) sNil)
    (sSeq (sIf (fB (f2 (gEq true) (fM 4 m_law_told (fCons (fV 3) (fCons (fC (.str "2222")) (fCons (fV 4) (fCons (fC (.str "lift")) fNil))))) (fTup (fCons (fC (.str "refused")) (fCons (fC (.int 6)) fNil))))) (sRet (fC (.bl false))) sNil)
    (sRet (vAnd (f2 (gEq false) (fMeth "Codes" "names" 1 m_Codes_names (fV 3) fNil) (fLst (fCons (fC (.str "ann")) (fCons (fC (.str "cy")) (fCons (fC (.str "cya")) fNil))))) (f2 (gIs false) (fMeth "Codes" "who" 2 m_Codes_who (fV 3) (fCons (fC (.str "2222")) fNil)) (fC .non)))))))))))))
def m_law : List D → Store → Res D := mOf 9 g_law
theorem fn_law {f : Addr} {fd : FuncData} (F : Fun K "law" "law" st_law f fd) (B : Bt mg) (C : Ct K mg cl) (d_law_drawn : Df P w K mg base cl 2 "_law_drawn" ["script", "k", "many"] m_law_drawn) (d_Codes_init : DfC P w K mg base cl 1 "Codes" ["self", "tries", "rest"] m_Codes_init) (d_Codes_give : DfM P w K mg base cl 2 "Codes" "give" ["self", "name", "code", "rights"] m_Codes_give) (d_law_told : Df P w K mg base cl 3 "_law_told" ["codes", "code", "moment", "right"] m_law_told) (d_Codes_locked_at : DfM P w K mg base cl 1 "Codes" "locked_at" ["self", "moment"] m_Codes_locked_at) (d_law_is_out : Df P w K mg base cl 4 "_law_is_out" ["codes", "moment"] m_law_is_out) (d_Codes_take : DfM P w K mg base cl 1 "Codes" "take" ["self", "name"] m_Codes_take) (d_Codes_who : DfM P w K mg base cl 1 "Codes" "who" ["self", "code"] m_Codes_who) (d_Codes_names : DfM P w K mg base cl 1 "Codes" "names" ["self"] m_Codes_names) : FnOk P w K mg base (L2.CX P w) 5 f fd ["script"] (spM K cl 1 m_law) :=
  Fun.fn (k := 4) (g := g_law) F (by rfl) (sc := ss_law) (by rfl) (by rfl) sc_law fun cdv A outer s H E e hr => by
    refine dss_cons ?_ ?_
    · refine ds_set (i := 1) sc_law.nd (by exact rfl) (by exact (Or.inl rfl)) ?_
      exact (de_bin o_add de_int (de_call d_law_drawn hr (by decide) (by exact rfl) (by exact takes_of rfl rfl rfl rfl) (da_cons (de_v 0 (pv 0)) (da_cons de_int (da_cons de_int da_nil)))))
    refine dss_cons ?_ ?_
    · refine ds_set (i := 2) sc_law.nd (by exact rfl) (by exact (Or.inl rfl)) ?_
      exact (de_bin o_add de_int (de_call d_law_drawn hr (by decide) (by exact rfl) (by exact takes_of rfl rfl rfl rfl) (da_cons (de_v 0 (pv 0)) (da_cons de_int (da_cons de_int da_nil)))))
    refine dss_cons ?_ ?_
    · refine ds_set (i := 3) sc_law.nd (by exact rfl) (by exact (Or.inr rfl)) ?_
      exact (de_make d_Codes_init hr (by decide) (by exact rfl) (by exact takes_of rfl rfl rfl rfl) (da_cons (de_v 1 (pv 1)) (da_cons (de_v 2 (pv 2)) da_nil)))
    refine dss_cons ?_ ?_
    · refine ds_expr ?_
      exact (de_meth d_Codes_give C.k_Codes hr (by decide) (by exact takes_of rfl rfl rfl rfl) (de_v 3 (pv 3)) (da_cons de_str (da_cons de_str (da_cons (de_tup (da_cons de_str (da_cons de_str da_nil))) da_nil))))
    refine dss_cons ?_ ?_
    · refine ds_expr ?_
      exact (de_meth d_Codes_give C.k_Codes hr (by decide) (by exact takes_of rfl rfl rfl rfl) (de_v 3 (pv 3)) (da_cons de_str (da_cons de_str (da_cons (de_tup (da_cons de_str da_nil)) da_nil))))
    refine dss_cons ?_ ?_
    · refine ds_set (i := 4) sc_law.nd (by exact rfl) (by exact (Or.inl rfl)) ?_
      exact (de_call d_law_drawn hr (by decide) (by exact rfl) (by exact takes_of rfl rfl rfl rfl) (da_cons (de_v 0 (pv 0)) (da_cons de_int (da_cons de_int da_nil))))
    refine dss_cons ?_ ?_
    · refine ds_for (by exact passes_of rfl) (by exact rfl) ?_ ?_ ?_
      · exact (di_rng1 (by exact rfl) B.range (da_cons de_int da_nil))
      · exact (dg_name (i := 5) sc_law.nd (by exact rfl) (by exact (Or.inl rfl)))
      · refine dss_cons ?_ ?_
        · refine ds_for (by exact passes_of rfl) (by exact rfl) ?_ ?_ ?_
          · exact (di_rng1 (by exact rfl) B.range (da_cons (de_call d_law_drawn hr (by decide) (by exact rfl) (by exact takes_of rfl rfl rfl rfl) (da_cons (de_v 0 (pv 0)) (da_cons (de_bin o_add de_int (de_v 5 (pv 5))) (da_cons (de_v 1 (pv 1)) da_nil)))) da_nil))
          · exact (dg_name (i := 6) sc_law.nd (by exact rfl) (by exact (Or.inl rfl)))
          · refine dss_cons ?_ ?_
            · refine ds_if ?_ ?_ ?_
              · exact (dt_cmp (o_ne (u64 hr)) (de_call d_law_told hr (by decide) (by exact rfl) (by exact takes_of rfl rfl rfl rfl) (da_cons (de_v 3 (pv 3)) (da_cons de_str (da_cons (de_v 4 (pv 4)) (da_cons de_str da_nil))))) (de_tup (da_cons de_str (da_cons de_int da_nil))) (nomark _))
              · refine dss_one ?_
                refine ds_ret ?_
                exact de_bl
              · exact dss_nil
            refine dss_cons ?_ ?_
            · refine ds_if ?_ ?_ ?_
              · exact (dt_val (de_meth d_Codes_locked_at C.k_Codes hr (by decide) (by exact takes_of rfl rfl rfl rfl) (de_v 3 (pv 3)) (da_cons (de_v 4 (pv 4)) da_nil)))
              · refine dss_one ?_
                refine ds_ret ?_
                exact de_bl
              · exact dss_nil
            refine dss_one ?_
            refine ds_set (i := 4) sc_law.nd (by exact rfl) (by exact (Or.inl rfl)) ?_
            exact (de_bin o_add (de_v 4 (pv 4)) (de_call d_law_drawn hr (by decide) (by exact rfl) (by exact takes_of rfl rfl rfl rfl) (da_cons (de_v 0 (pv 0)) (da_cons (de_bin o_add de_int (de_v 6 (pv 6))) (da_cons de_int da_nil)))))
        refine dss_cons ?_ ?_
        · refine ds_if ?_ ?_ ?_
          · exact (dt_cmp (o_ne (u64 hr)) (de_call d_law_told hr (by decide) (by exact rfl) (by exact takes_of rfl rfl rfl rfl) (da_cons (de_v 3 (pv 3)) (da_cons de_str (da_cons (de_v 4 (pv 4)) (da_cons de_str da_nil))))) (de_tup (da_cons de_str (da_cons de_int da_nil))) (nomark _))
          · refine dss_one ?_
            refine ds_ret ?_
            exact de_bl
          · exact dss_nil
        refine dss_cons ?_ ?_
        · refine ds_if ?_ ?_ ?_
          · exact (dt_cmp (o_ne (u64 hr)) (de_call d_law_told hr (by decide) (by exact rfl) (by exact takes_of rfl rfl rfl rfl) (da_cons (de_v 3 (pv 3)) (da_cons de_str (da_cons (de_v 4 (pv 4)) (da_cons de_str da_nil))))) de_str (nomark _))
          · refine dss_one ?_
            refine ds_ret ?_
            exact de_bl
          · exact dss_nil
        refine dss_cons ?_ ?_
        · refine ds_for (by exact passes_of rfl) (by exact rfl) ?_ ?_ ?_
          · exact (di_rng1 (by exact rfl) B.range (da_cons (de_v 1 (pv 1)) da_nil))
          · exact (dg_name (i := 6) sc_law.nd (by exact rfl) (by exact (Or.inl rfl)))
          · refine dss_cons ?_ ?_
            · refine ds_if ?_ ?_ ?_
              · exact (dt_val (de_meth d_Codes_locked_at C.k_Codes hr (by decide) (by exact takes_of rfl rfl rfl rfl) (de_v 3 (pv 3)) (da_cons (de_v 4 (pv 4)) da_nil)))
              · refine dss_one ?_
                refine ds_ret ?_
                exact de_bl
              · exact dss_nil
            refine dss_one ?_
            refine ds_if ?_ ?_ ?_
            · exact (dt_cmp (o_ne (u64 hr)) (de_call d_law_told hr (by decide) (by exact rfl) (by exact takes_of rfl rfl rfl rfl) (da_cons (de_v 3 (pv 3)) (da_cons de_str (da_cons (de_v 4 (pv 4)) (da_cons de_str da_nil))))) (de_tup (da_cons de_str (da_cons de_int da_nil))) (nomark _))
            · refine dss_one ?_
              refine ds_ret ?_
              exact de_bl
            · exact dss_nil
        refine dss_cons ?_ ?_
        · refine ds_expr ?_
          exact (de_meth d_Codes_give C.k_Codes hr (by decide) (by exact takes_of rfl rfl rfl rfl) (de_v 3 (pv 3)) (da_cons (de_bin o_add de_str (de_bin o_mulX de_str (de_v 5 (pv 5)))) (da_cons (de_bin o_add de_str (de_callTy c_str (by exact rfl) B.str bb_str (da_cons (de_v 5 (pv 5)) da_nil))) (da_cons (de_tup da_nil) da_nil))))
        refine dss_cons ?_ ?_
        · refine ds_set (i := 7) sc_law.nd (by exact rfl) (by exact (Or.inl rfl)) ?_
          exact (de_bin o_add (de_v 4 (pv 4)) (de_v 2 (pv 2)))
        refine dss_cons ?_ ?_
        · refine ds_if ?_ ?_ ?_
          · exact (dt_not (dt_val (de_callB (c_all (by exact rfl)) (by exact rfl) B.all bb_all (da_cons (DL.de (dl_comp (by exact rfl) sc_law.nd (di_seq (de_tup (da_cons (de_v 4 (pv 4)) (da_cons (de_bin o_add (de_v 4 (pv 4)) (de_bin o_fdiv (de_v 2 (pv 2)) de_int)) (da_cons (de_bin o_sub (de_v 7 (pv 7)) de_int) da_nil))))) (by exact blkOk_by (N := nm_law) (sc := ss_law) (own := [("here", 8)]) (by decide +kernel)) (fun _ _ _ _ _ => (eg_name (i := 8) (by decide) sc_law.nd (by exact rfl) (by first | exact Or.inl rfl | exact Or.inr rfl))) (fun _ _ _ _ _ => dts_nil) (fun _ _ _ _ _ => (de_call d_law_is_out hr (by decide) (by exact rfl) takes0 (da_cons (de_v 3 (pv 3)) (da_cons (de_v 8 (pv 8)) da_nil)))))) da_nil))))
          · refine dss_one ?_
            refine ds_ret ?_
            exact de_bl
          · exact dss_nil
        refine dss_cons ?_ ?_
        · refine ds_if ?_ ?_ ?_
          · exact (DW.pt (dw_or (dt_val (de_meth d_Codes_locked_at C.k_Codes hr (by decide) (by exact takes_of rfl rfl rfl rfl) (de_v 3 (pv 3)) (da_cons (de_v 7 (pv 7)) da_nil))) (dw_or1 (dt_cmp (o_ne (u64 hr)) (de_call d_law_told hr (by decide) (by exact rfl) (by exact takes_of rfl rfl rfl rfl) (da_cons (de_v 3 (pv 3)) (da_cons de_str (da_cons (de_v 7 (pv 7)) (da_cons de_str da_nil))))) de_str (nomark _)))))
          · refine dss_one ?_
            refine ds_ret ?_
            exact de_bl
          · exact dss_nil
        refine dss_cons ?_ ?_
        · refine ds_if ?_ ?_ ?_
          · exact (dt_cmp (o_ne (u64 hr)) (de_call d_law_told hr (by decide) (by exact rfl) (by exact takes_of rfl rfl rfl rfl) (da_cons (de_v 3 (pv 3)) (da_cons de_str (da_cons (de_bin o_sub (de_v 7 (pv 7)) de_int) (da_cons de_str da_nil))))) (de_tup (da_cons de_str (da_cons de_int da_nil))) (nomark _))
          · refine dss_one ?_
            refine ds_ret ?_
            exact de_bl
          · exact dss_nil
        refine dss_one ?_
        refine ds_set (i := 4) sc_law.nd (by exact rfl) (by exact (Or.inl rfl)) ?_
        exact (de_bin o_add (de_v 7 (pv 7)) de_int)
    refine dss_cons ?_ ?_
    · refine ds_if ?_ ?_ ?_
      · exact (dt_cmp (o_ne (u64 hr)) (de_meth d_Codes_take C.k_Codes hr (by decide) (by exact takes_of rfl rfl rfl rfl) (de_v 3 (pv 3)) (da_cons de_str da_nil)) (de_tup (da_cons de_str (da_cons (de_tup (da_cons de_str da_nil)) da_nil))) (nomark _))
      · refine dss_one ?_
        refine ds_ret ?_
        exact de_bl
      · exact dss_nil
    refine dss_cons ?_ ?_
    · refine ds_if ?_ ?_ ?_
      · exact (dt_cmp (o_ne (u64 hr)) (de_call d_law_told hr (by decide) (by exact rfl) (by exact takes_of rfl rfl rfl rfl) (da_cons (de_v 3 (pv 3)) (da_cons de_str (da_cons (de_v 4 (pv 4)) (da_cons de_str da_nil))))) (de_tup (da_cons de_str (da_cons de_int da_nil))) (nomark _))
      · refine dss_one ?_
        refine ds_ret ?_
        exact de_bl
      · exact dss_nil
    refine dss_one ?_
    refine ds_ret ?_
    exact (de_and (de_cmp (o_eq (u64 hr)) (de_meth0 d_Codes_names C.k_Codes hr (by decide) (by exact takes_of rfl rfl rfl rfl) (de_v 3 (pv 3))) (de_lst (da_cons de_str (da_cons de_str (da_cons de_str da_nil)))) (nomark _)) (de_one (de_cmp o_is (de_meth d_Codes_who C.k_Codes hr (by decide) (by exact takes_of rfl rfl rfl rfl) (de_v 3 (pv 3)) (da_cons de_str da_nil)) de_non (nomark _))))
theorem ok_law {f : Addr} {fd : FuncData} (F : Fun K "law" "law" st_law f fd) (hb : Binds K fd ["script"] []) (hm : mg "law" = some (.ref f)) (B : Bt mg) (C : Ct K mg cl) (d_law_drawn : Df P w K mg base cl 2 "_law_drawn" ["script", "k", "many"] m_law_drawn) (d_Codes_init : DfC P w K mg base cl 1 "Codes" ["self", "tries", "rest"] m_Codes_init) (d_Codes_give : DfM P w K mg base cl 2 "Codes" "give" ["self", "name", "code", "rights"] m_Codes_give) (d_law_told : Df P w K mg base cl 3 "_law_told" ["codes", "code", "moment", "right"] m_law_told) (d_Codes_locked_at : DfM P w K mg base cl 1 "Codes" "locked_at" ["self", "moment"] m_Codes_locked_at) (d_law_is_out : Df P w K mg base cl 4 "_law_is_out" ["codes", "moment"] m_law_is_out) (d_Codes_take : DfM P w K mg base cl 1 "Codes" "take" ["self", "name"] m_Codes_take) (d_Codes_who : DfM P w K mg base cl 1 "Codes" "who" ["self", "code"] m_Codes_who) (d_Codes_names : DfM P w K mg base cl 1 "Codes" "names" ["self"] m_Codes_names) : Df P w K mg base cl 5 "law" ["script"] m_law :=
  ⟨f, fd, fn_law F B C d_law_drawn d_Codes_init d_Codes_give d_law_told d_Codes_locked_at d_law_is_out d_Codes_take d_Codes_who d_Codes_names, hm, F.kp, hb⟩
end
end BW
namespace BW
open PySem L2
/-! ### drawn cells -/
def cellF (ns : List Int) (k : Int) : Int := if ns = [] then 7 * k else (ns[(k % (ns.length : Int)).toNat]?).getD 0 + 6553 * (k / (ns.length : Int))
theorem atI_emod {ns : List Int} (h : ns ≠ []) (k : Int) : atI ns (k % (ns.length : Int)) = some ((ns[(k % (ns.length : Int)).toNat]?).getD 0) := by
  have hl : 0 < ns.length := List.length_pos_iff.mpr h
  have h1 : 0 ≤ k % (ns.length : Int) := Int.emod_nonneg k (by omega)
  have h2 : k % (ns.length : Int) < ns.length := Int.emod_lt_of_pos k (by omega)
  have hj : (k % (ns.length : Int)).toNat < ns.length := by omega
  unfold atI ixN
  rw [if_pos h1, if_pos h2]
  simp [hj]
theorem deq_scr_nil (ns : List Int) : deq (.scr ns) (.lst []) = decide (ns = []) := by
  cases ns with
  | nil => rfl
  | cons n ns => rfl
theorem cell_ev (ns : List Int) (hn : ns.length ≤ 63) (k : Int) (S : Store) : m_law_cell [.scr ns, .int k] S = .ok (.int (cellF ns k)) S := by
  have q : gEq false (.scr ns) (.lst []) S = some (.bl (decide (ns = []))) := by rw [eq_ok S false rfl rfl, deq_scr_nil, Bool.false_xor]
  have m1 : ∀ j, gMul (.int 7) (.int j) S = some (.int (7 * j)) := fun j => mul_ok S (.inl (by decide))
  have m2 : ∀ j, gMul (.int 6553) (.int j) S = some (.int (6553 * j)) := fun j => mul_ok S (.inl (by decide))
  have z : ([] : List D).length ≤ LIM := lim_small (by decide)
  unfold m_law_cell g_law_cell
  by_cases h : ns = []
  · subst h
    simp [fV, q, m1, cellF, lim_small]
  · have hl : 0 < ns.length := List.length_pos_iff.mpr h
    have hl2 : (0 : Int) < ns.length := by omega
    have ix : gIx (.scr ns) (.int (k % (ns.length : Int))) S = some (.int ((ns[(k % (ns.length : Int)).toNat]?).getD 0)) := by
      show (atI ns _).map D.int = _
      rw [atI_emod h]; rfl
    simp [fV, q, h, m2, cellF, lim_small, mod_ok S hl2, fdiv_ok S hl2 (show (ns.length : Int) < 1073741824 by omega), ix]
def d1 (ns : List Int) (k : Int) : Int := (cellF ns k % 2147483563 * 69069 + 104723 * (k + 1)) % 2147483563
def d2 (ns : List Int) (k : Int) : Int := (d1 ns k * d1 ns k + d1 ns k / 3) % 2147483399
def drawnF (ns : List Int) (k many : Int) : Int := (d2 ns k * d2 ns k + d2 ns k / 7) % 2147483647 / 11 % many
theorem drawn_ev (ns : List Int) (hn : ns.length ≤ 63) (k many : Int) (hm : 0 < many) (S : Store) : m_law_drawn [.scr ns, .int k, .int many] S = .ok (.int (drawnF ns k many)) S := by
  have a1 : -(2 ^ 64) < cellF ns k % 2147483563 ∧ cellF ns k % 2147483563 < 2 ^ 64 := by omega
  have a2 : -(2 ^ 64) < d1 ns k ∧ d1 ns k < 2 ^ 64 := by unfold d1; omega
  have a3 : -(2 ^ 64) < d2 ns k ∧ d2 ns k < 2 ^ 64 := by unfold d2; omega
  have e1 := mul_ok S (i := cellF ns k % 2147483563) (j := 69069) (.inl a1)
  have e2 := mul_ok S (i := d1 ns k) (j := d1 ns k) (.inl a2)
  have e3 := mul_ok S (i := d2 ns k) (j := d2 ns k) (.inl a3)
  have e4 := mul_ok S (i := 104723) (j := k + 1) (.inl (by decide))
  have f1 := fun i => mod_ok S (i := i) (j := 2147483563) (by decide)
  have f2 := fun i => mod_ok S (i := i) (j := 2147483399) (by decide)
  have f3 := fun i => mod_ok S (i := i) (j := 2147483647) (by decide)
  have f4 := fun i => fdiv_ok S (i := i) (j := 3) (by decide) (by decide)
  have f5 := fun i => fdiv_ok S (i := i) (j := 7) (by decide) (by decide)
  have f6 := fun i => fdiv_ok S (i := i) (j := 11) (by decide) (by decide)
  have f7 := fun i => mod_ok S (i := i) (j := many) hm
  have x1 : (cellF ns k % 2147483563 * 69069 + 104723 * (k + 1)) % 2147483563 = d1 ns k := rfl
  have x2 : (d1 ns k * d1 ns k + d1 ns k / 3) % 2147483399 = d2 ns k := rfl
  unfold m_law_drawn g_law_drawn
  simp [fV, cell_ev ns hn, f1, e1, e4, x1, f4, e2, f2, x2, e3, f5, f3, f6, f7]
  rfl
theorem drawn_lt (ns : List Int) (k : Int) {many : Int} (h : 0 < many) : 0 ≤ drawnF ns k many ∧ drawnF ns k many < many := ⟨Int.emod_nonneg _ (by omega), Int.emod_lt_of_pos _ h⟩


/-! ### the fields -/
theorem q_tries_rest : (("tries" : Str) == "rest") = false := by decide +kernel
theorem q_tries_rows : (("tries" : Str) == "rows") = false := by decide +kernel
theorem q_tries_misses : (("tries" : Str) == "misses") = false := by decide +kernel
theorem q_tries_since : (("tries" : Str) == "since") = false := by decide +kernel
theorem q_tries_shut : (("tries" : Str) == "shut") = false := by decide +kernel
theorem q_tries_last : (("tries" : Str) == "last") = false := by decide +kernel
theorem q_rest_tries : (("rest" : Str) == "tries") = false := by decide +kernel
theorem q_rest_rows : (("rest" : Str) == "rows") = false := by decide +kernel
theorem q_rest_misses : (("rest" : Str) == "misses") = false := by decide +kernel
theorem q_rest_since : (("rest" : Str) == "since") = false := by decide +kernel
theorem q_rest_shut : (("rest" : Str) == "shut") = false := by decide +kernel
theorem q_rest_last : (("rest" : Str) == "last") = false := by decide +kernel
theorem q_rows_tries : (("rows" : Str) == "tries") = false := by decide +kernel
theorem q_rows_rest : (("rows" : Str) == "rest") = false := by decide +kernel
theorem q_rows_misses : (("rows" : Str) == "misses") = false := by decide +kernel
theorem q_rows_since : (("rows" : Str) == "since") = false := by decide +kernel
theorem q_rows_shut : (("rows" : Str) == "shut") = false := by decide +kernel
theorem q_rows_last : (("rows" : Str) == "last") = false := by decide +kernel
theorem q_misses_tries : (("misses" : Str) == "tries") = false := by decide +kernel
theorem q_misses_rest : (("misses" : Str) == "rest") = false := by decide +kernel
theorem q_misses_rows : (("misses" : Str) == "rows") = false := by decide +kernel
theorem q_misses_since : (("misses" : Str) == "since") = false := by decide +kernel
theorem q_misses_shut : (("misses" : Str) == "shut") = false := by decide +kernel
theorem q_misses_last : (("misses" : Str) == "last") = false := by decide +kernel
theorem q_since_tries : (("since" : Str) == "tries") = false := by decide +kernel
theorem q_since_rest : (("since" : Str) == "rest") = false := by decide +kernel
theorem q_since_rows : (("since" : Str) == "rows") = false := by decide +kernel
theorem q_since_misses : (("since" : Str) == "misses") = false := by decide +kernel
theorem q_since_shut : (("since" : Str) == "shut") = false := by decide +kernel
theorem q_since_last : (("since" : Str) == "last") = false := by decide +kernel
theorem q_shut_tries : (("shut" : Str) == "tries") = false := by decide +kernel
theorem q_shut_rest : (("shut" : Str) == "rest") = false := by decide +kernel
theorem q_shut_rows : (("shut" : Str) == "rows") = false := by decide +kernel
theorem q_shut_misses : (("shut" : Str) == "misses") = false := by decide +kernel
theorem q_shut_since : (("shut" : Str) == "since") = false := by decide +kernel
theorem q_shut_last : (("shut" : Str) == "last") = false := by decide +kernel
theorem q_last_tries : (("last" : Str) == "tries") = false := by decide +kernel
theorem q_last_rest : (("last" : Str) == "rest") = false := by decide +kernel
theorem q_last_rows : (("last" : Str) == "rows") = false := by decide +kernel
theorem q_last_misses : (("last" : Str) == "misses") = false := by decide +kernel
theorem q_last_since : (("last" : Str) == "since") = false := by decide +kernel
theorem q_last_shut : (("last" : Str) == "shut") = false := by decide +kernel
theorem q_give_tries : (("give" : Str) == "tries") = false := by decide +kernel
theorem q_give_rest : (("give" : Str) == "rest") = false := by decide +kernel
theorem q_give_rows : (("give" : Str) == "rows") = false := by decide +kernel
theorem q_give_misses : (("give" : Str) == "misses") = false := by decide +kernel
theorem q_give_since : (("give" : Str) == "since") = false := by decide +kernel
theorem q_give_shut : (("give" : Str) == "shut") = false := by decide +kernel
theorem q_give_last : (("give" : Str) == "last") = false := by decide +kernel
theorem q_take_tries : (("take" : Str) == "tries") = false := by decide +kernel
theorem q_take_rest : (("take" : Str) == "rest") = false := by decide +kernel
theorem q_take_rows : (("take" : Str) == "rows") = false := by decide +kernel
theorem q_take_misses : (("take" : Str) == "misses") = false := by decide +kernel
theorem q_take_since : (("take" : Str) == "since") = false := by decide +kernel
theorem q_take_shut : (("take" : Str) == "shut") = false := by decide +kernel
theorem q_take_last : (("take" : Str) == "last") = false := by decide +kernel
theorem q_who_tries : (("who" : Str) == "tries") = false := by decide +kernel
theorem q_who_rest : (("who" : Str) == "rest") = false := by decide +kernel
theorem q_who_rows : (("who" : Str) == "rows") = false := by decide +kernel
theorem q_who_misses : (("who" : Str) == "misses") = false := by decide +kernel
theorem q_who_since : (("who" : Str) == "since") = false := by decide +kernel
theorem q_who_shut : (("who" : Str) == "shut") = false := by decide +kernel
theorem q_who_last : (("who" : Str) == "last") = false := by decide +kernel
theorem q_names_tries : (("names" : Str) == "tries") = false := by decide +kernel
theorem q_names_rest : (("names" : Str) == "rest") = false := by decide +kernel
theorem q_names_rows : (("names" : Str) == "rows") = false := by decide +kernel
theorem q_names_misses : (("names" : Str) == "misses") = false := by decide +kernel
theorem q_names_since : (("names" : Str) == "since") = false := by decide +kernel
theorem q_names_shut : (("names" : Str) == "shut") = false := by decide +kernel
theorem q_names_last : (("names" : Str) == "last") = false := by decide +kernel
theorem q_locked_at_tries : (("locked_at" : Str) == "tries") = false := by decide +kernel
theorem q_locked_at_rest : (("locked_at" : Str) == "rest") = false := by decide +kernel
theorem q_locked_at_rows : (("locked_at" : Str) == "rows") = false := by decide +kernel
theorem q_locked_at_misses : (("locked_at" : Str) == "misses") = false := by decide +kernel
theorem q_locked_at_since : (("locked_at" : Str) == "since") = false := by decide +kernel
theorem q_locked_at_shut : (("locked_at" : Str) == "shut") = false := by decide +kernel
theorem q_locked_at_last : (("locked_at" : Str) == "last") = false := by decide +kernel
theorem q_ask_tries : (("ask" : Str) == "tries") = false := by decide +kernel
theorem q_ask_rest : (("ask" : Str) == "rest") = false := by decide +kernel
theorem q_ask_rows : (("ask" : Str) == "rows") = false := by decide +kernel
theorem q_ask_misses : (("ask" : Str) == "misses") = false := by decide +kernel
theorem q_ask_since : (("ask" : Str) == "since") = false := by decide +kernel
theorem q_ask_shut : (("ask" : Str) == "shut") = false := by decide +kernel
theorem q_ask_last : (("ask" : Str) == "last") = false := by decide +kernel
theorem r_tries_rest : (("tries" : Str) = "rest") = False := eq_false (by decide +kernel)
theorem r_tries_rows : (("tries" : Str) = "rows") = False := eq_false (by decide +kernel)
theorem r_tries_misses : (("tries" : Str) = "misses") = False := eq_false (by decide +kernel)
theorem r_tries_since : (("tries" : Str) = "since") = False := eq_false (by decide +kernel)
theorem r_tries_shut : (("tries" : Str) = "shut") = False := eq_false (by decide +kernel)
theorem r_tries_last : (("tries" : Str) = "last") = False := eq_false (by decide +kernel)
theorem r_rest_tries : (("rest" : Str) = "tries") = False := eq_false (by decide +kernel)
theorem r_rest_rows : (("rest" : Str) = "rows") = False := eq_false (by decide +kernel)
theorem r_rest_misses : (("rest" : Str) = "misses") = False := eq_false (by decide +kernel)
theorem r_rest_since : (("rest" : Str) = "since") = False := eq_false (by decide +kernel)
theorem r_rest_shut : (("rest" : Str) = "shut") = False := eq_false (by decide +kernel)
theorem r_rest_last : (("rest" : Str) = "last") = False := eq_false (by decide +kernel)
theorem r_rows_tries : (("rows" : Str) = "tries") = False := eq_false (by decide +kernel)
theorem r_rows_rest : (("rows" : Str) = "rest") = False := eq_false (by decide +kernel)
theorem r_rows_misses : (("rows" : Str) = "misses") = False := eq_false (by decide +kernel)
theorem r_rows_since : (("rows" : Str) = "since") = False := eq_false (by decide +kernel)
theorem r_rows_shut : (("rows" : Str) = "shut") = False := eq_false (by decide +kernel)
theorem r_rows_last : (("rows" : Str) = "last") = False := eq_false (by decide +kernel)
theorem r_misses_tries : (("misses" : Str) = "tries") = False := eq_false (by decide +kernel)
theorem r_misses_rest : (("misses" : Str) = "rest") = False := eq_false (by decide +kernel)
theorem r_misses_rows : (("misses" : Str) = "rows") = False := eq_false (by decide +kernel)
theorem r_misses_since : (("misses" : Str) = "since") = False := eq_false (by decide +kernel)
theorem r_misses_shut : (("misses" : Str) = "shut") = False := eq_false (by decide +kernel)
theorem r_misses_last : (("misses" : Str) = "last") = False := eq_false (by decide +kernel)
theorem r_since_tries : (("since" : Str) = "tries") = False := eq_false (by decide +kernel)
theorem r_since_rest : (("since" : Str) = "rest") = False := eq_false (by decide +kernel)
theorem r_since_rows : (("since" : Str) = "rows") = False := eq_false (by decide +kernel)
theorem r_since_misses : (("since" : Str) = "misses") = False := eq_false (by decide +kernel)
theorem r_since_shut : (("since" : Str) = "shut") = False := eq_false (by decide +kernel)
theorem r_since_last : (("since" : Str) = "last") = False := eq_false (by decide +kernel)
theorem r_shut_tries : (("shut" : Str) = "tries") = False := eq_false (by decide +kernel)
theorem r_shut_rest : (("shut" : Str) = "rest") = False := eq_false (by decide +kernel)
theorem r_shut_rows : (("shut" : Str) = "rows") = False := eq_false (by decide +kernel)
theorem r_shut_misses : (("shut" : Str) = "misses") = False := eq_false (by decide +kernel)
theorem r_shut_since : (("shut" : Str) = "since") = False := eq_false (by decide +kernel)
theorem r_shut_last : (("shut" : Str) = "last") = False := eq_false (by decide +kernel)
theorem r_last_tries : (("last" : Str) = "tries") = False := eq_false (by decide +kernel)
theorem r_last_rest : (("last" : Str) = "rest") = False := eq_false (by decide +kernel)
theorem r_last_rows : (("last" : Str) = "rows") = False := eq_false (by decide +kernel)
theorem r_last_misses : (("last" : Str) = "misses") = False := eq_false (by decide +kernel)
theorem r_last_since : (("last" : Str) = "since") = False := eq_false (by decide +kernel)
theorem r_last_shut : (("last" : Str) = "shut") = False := eq_false (by decide +kernel)

structure CS where
  tries : Int
  rest : Int
  rows : List (Key × D)
  misses : Int
  since : Int
  shut : Int
  last : Int
def flds (s : CS) : List (Str × D) := [("tries", .int s.tries), ("rest", .int s.rest), ("rows", .dic s.rows), ("misses", .int s.misses), ("since", .int s.since), ("shut", .int s.shut), ("last", .int s.last)]
def Sto (s : CS) : Store := [.ins "Codes" (flds s)]
@[simp] theorem ins_at (s : CS) : insAt "Codes" (.ref 0) (Sto s) = some (0, flds s) := by simp [insAt, Sto]
@[simp] theorem flds_len (s : CS) : (flds s).length = 7 := rfl
section
variable (s : CS)
@[simp] theorem k_tries : (flds s).lookup ("tries" : Str) = some (.int s.tries) := by simp only [flds, List.lookup_cons, beq_self_eq_true, q_tries_rest, q_tries_rows, q_tries_misses, q_tries_since, q_tries_shut, q_tries_last]
@[simp] theorem k_rest : (flds s).lookup ("rest" : Str) = some (.int s.rest) := by simp only [flds, List.lookup_cons, beq_self_eq_true, q_rest_tries, q_rest_rows, q_rest_misses, q_rest_since, q_rest_shut, q_rest_last]
@[simp] theorem k_rows : (flds s).lookup ("rows" : Str) = some (.dic s.rows) := by simp only [flds, List.lookup_cons, beq_self_eq_true, q_rows_tries, q_rows_rest, q_rows_misses, q_rows_since, q_rows_shut, q_rows_last]
@[simp] theorem k_misses : (flds s).lookup ("misses" : Str) = some (.int s.misses) := by simp only [flds, List.lookup_cons, beq_self_eq_true, q_misses_tries, q_misses_rest, q_misses_rows, q_misses_since, q_misses_shut, q_misses_last]
@[simp] theorem k_since : (flds s).lookup ("since" : Str) = some (.int s.since) := by simp only [flds, List.lookup_cons, beq_self_eq_true, q_since_tries, q_since_rest, q_since_rows, q_since_misses, q_since_shut, q_since_last]
@[simp] theorem k_shut : (flds s).lookup ("shut" : Str) = some (.int s.shut) := by simp only [flds, List.lookup_cons, beq_self_eq_true, q_shut_tries, q_shut_rest, q_shut_rows, q_shut_misses, q_shut_since, q_shut_last]
@[simp] theorem k_last : (flds s).lookup ("last" : Str) = some (.int s.last) := by simp only [flds, List.lookup_cons, beq_self_eq_true, q_last_tries, q_last_rest, q_last_rows, q_last_misses, q_last_since, q_last_shut]
@[simp] theorem k_give : (flds s).lookup ("give" : Str) = none := by simp only [flds, List.lookup_cons, List.lookup_nil, q_give_tries, q_give_rest, q_give_rows, q_give_misses, q_give_since, q_give_shut, q_give_last]
@[simp] theorem k_take : (flds s).lookup ("take" : Str) = none := by simp only [flds, List.lookup_cons, List.lookup_nil, q_take_tries, q_take_rest, q_take_rows, q_take_misses, q_take_since, q_take_shut, q_take_last]
@[simp] theorem k_who : (flds s).lookup ("who" : Str) = none := by simp only [flds, List.lookup_cons, List.lookup_nil, q_who_tries, q_who_rest, q_who_rows, q_who_misses, q_who_since, q_who_shut, q_who_last]
@[simp] theorem k_names : (flds s).lookup ("names" : Str) = none := by simp only [flds, List.lookup_cons, List.lookup_nil, q_names_tries, q_names_rest, q_names_rows, q_names_misses, q_names_since, q_names_shut, q_names_last]
@[simp] theorem k_locked_at : (flds s).lookup ("locked_at" : Str) = none := by simp only [flds, List.lookup_cons, List.lookup_nil, q_locked_at_tries, q_locked_at_rest, q_locked_at_rows, q_locked_at_misses, q_locked_at_since, q_locked_at_shut, q_locked_at_last]
@[simp] theorem k_ask : (flds s).lookup ("ask" : Str) = none := by simp only [flds, List.lookup_cons, List.lookup_nil, q_ask_tries, q_ask_rest, q_ask_rows, q_ask_misses, q_ask_since, q_ask_shut, q_ask_last]
@[simp] theorem p_tries (v : Int) : (Sto s).set 0 (.ins "Codes" (putFD "tries" (.int v) (flds s))) = Sto { s with tries := v } := by simp only [Sto, List.set_cons_zero, flds, putFD, if_true, if_false, r_rest_tries, r_rows_tries, r_misses_tries, r_since_tries, r_shut_tries, r_last_tries]
@[simp] theorem p_rest (v : Int) : (Sto s).set 0 (.ins "Codes" (putFD "rest" (.int v) (flds s))) = Sto { s with rest := v } := by simp only [Sto, List.set_cons_zero, flds, putFD, if_true, if_false, r_tries_rest, r_rows_rest, r_misses_rest, r_since_rest, r_shut_rest, r_last_rest]
@[simp] theorem p_rows (v : List (Key × D)) : (Sto s).set 0 (.ins "Codes" (putFD "rows" (.dic v) (flds s))) = Sto { s with rows := v } := by simp only [Sto, List.set_cons_zero, flds, putFD, if_true, if_false, r_tries_rows, r_rest_rows, r_misses_rows, r_since_rows, r_shut_rows, r_last_rows]
@[simp] theorem p_misses (v : Int) : (Sto s).set 0 (.ins "Codes" (putFD "misses" (.int v) (flds s))) = Sto { s with misses := v } := by simp only [Sto, List.set_cons_zero, flds, putFD, if_true, if_false, r_tries_misses, r_rest_misses, r_rows_misses, r_since_misses, r_shut_misses, r_last_misses]
@[simp] theorem p_since (v : Int) : (Sto s).set 0 (.ins "Codes" (putFD "since" (.int v) (flds s))) = Sto { s with since := v } := by simp only [Sto, List.set_cons_zero, flds, putFD, if_true, if_false, r_tries_since, r_rest_since, r_rows_since, r_misses_since, r_shut_since, r_last_since]
@[simp] theorem p_shut (v : Int) : (Sto s).set 0 (.ins "Codes" (putFD "shut" (.int v) (flds s))) = Sto { s with shut := v } := by simp only [Sto, List.set_cons_zero, flds, putFD, if_true, if_false, r_tries_shut, r_rest_shut, r_rows_shut, r_misses_shut, r_since_shut, r_last_shut]
@[simp] theorem p_last (v : Int) : (Sto s).set 0 (.ins "Codes" (putFD "last" (.int v) (flds s))) = Sto { s with last := v } := by simp only [Sto, List.set_cons_zero, flds, putFD, if_true, if_false, r_tries_last, r_rest_last, r_rows_last, r_misses_last, r_since_last, r_shut_last]
end
theorem l1000 : (7 : Nat) < 1000 := by decide
theorem init_ev (t r : Int) : m_Codes_init [.ref 0, .int t, .int r] [.ins "Codes" []] = .ok .non (Sto ⟨t, r, [], 0, 0, 0, 0⟩) := by
  simp [m_Codes_init, g_Codes_init, insAt, putFD, Sto, flds, r_tries_rest, r_tries_rows, r_tries_misses, r_tries_since, r_tries_shut, r_tries_last, r_rest_tries, r_rest_rows, r_rest_misses, r_rest_since, r_rest_shut, r_rest_last, r_rows_tries, r_rows_rest, r_rows_misses, r_rows_since, r_rows_shut, r_rows_last, r_misses_tries, r_misses_rest, r_misses_rows, r_misses_since, r_misses_shut, r_misses_last, r_since_tries, r_since_rest, r_since_rows, r_since_misses, r_since_shut, r_since_last, r_shut_tries, r_shut_rest, r_shut_rows, r_shut_misses, r_shut_since, r_shut_last, r_last_tries, r_last_rest, r_last_rows, r_last_misses, r_last_since, r_last_shut]
theorem locked_ev (s : CS) (m : Int) : m_Codes_locked_at [.ref 0, .int m] (Sto s) = .ok (.bl (decide (s.since ≤ m) && decide (m < s.shut))) (Sto s) := by
  have q : gLt (.int m) (.int s.shut) (Sto s) = some (.bl (decide (m < s.shut))) := rfl
  by_cases h : s.since ≤ m <;> simp [m_Codes_locked_at, g_Codes_locked_at, gI2, h, q]
end BW
namespace BW
open PySem L2
theorem l4 : (4 : Nat) ≤ LIM := lim_small (by decide)
theorem l3 : (3 : Nat) ≤ LIM := lim_small (by decide)
theorem l2 : (2 : Nat) ≤ LIM := lim_small (by decide)
theorem l1 : (1 : Nat) ≤ LIM := lim_small (by decide)
theorem l0 : (0 : Nat) ≤ LIM := lim_small (by decide)
theorem ll {k : Nat} (h : k ≤ 20) : k ≤ LIM := lim_small (by omega)
theorem add_lst (S : Store) {a b : List D} (h : a.length + b.length ≤ 1000) : gAdd (.lst a) (.lst b) S = some (.lst (a ++ b)) := by
  show (if _ then _ else _) = _
  rw [if_pos (lim_small h)]
/-! ### the word of an error -/
def flagsD (c : Str) : List D := [.bl (isaX c "NoName"), .bl (isaX c "NoCode"), .bl (isaX c "NoRight"), .bl (isaX c "Taken"), .bl (isaX c "NoTime"), .bl (isaX c "Locked"), .bl (isaX c "Wrong")]
theorem word_at (a : Addr) (c : Str) (S : Store) {k : Nat} (h1 : gCountT (flagsD c) [.bl true] S = some (.int 1)) (h2 : gIndexT (flagsD c) [.bl true] S = some (.int (k : Nat))) : mOfE 2 a (g_law_word a c) S = .ok (.tup [.str "refused", .int (k : Nat)]) S := by
  have ga := add_lst S (a := [.bl (isaX c "NoName"), .bl (isaX c "NoCode"), .bl (isaX c "NoRight"), .bl (isaX c "Taken")]) (b := [.bl (isaX c "NoTime"), .bl (isaX c "Locked"), .bl (isaX c "Wrong")]) (by simp)
  simp only [flagsD] at h1 h2
  simp [mOfE, g_law_word, startX, l4, l3, l2, ga, h1, h2]
theorem fl_NoTime : flagsD "NoTime" = [false, false, false, false, true, false, false].map D.bl := by
  have e : [isaX "NoTime" "NoName", isaX "NoTime" "NoCode", isaX "NoTime" "NoRight", isaX "NoTime" "Taken", isaX "NoTime" "NoTime", isaX "NoTime" "Locked", isaX "NoTime" "Wrong"] = [false, false, false, false, true, false, false] := by decide +kernel
  exact congrArg (List.map D.bl) e
theorem wa_NoTime (a : Addr) (S : Store) : mOfE 2 a (g_law_word a "NoTime") S = .ok (.tup [.str "refused", .int 4]) S := word_at a _ S (k := 4) (by rw [fl_NoTime]; rfl) (by rw [fl_NoTime]; rfl)
theorem wd_NoTime (S : Store) : m_law_word "NoTime" S = .ok (.tup [.str "refused", .int 4]) S := wa_NoTime 0 S
theorem fl_NoName : flagsD "NoName" = [true, false, false, false, false, false, false].map D.bl := by
  have e : [isaX "NoName" "NoName", isaX "NoName" "NoCode", isaX "NoName" "NoRight", isaX "NoName" "Taken", isaX "NoName" "NoTime", isaX "NoName" "Locked", isaX "NoName" "Wrong"] = [true, false, false, false, false, false, false] := by decide +kernel
  exact congrArg (List.map D.bl) e
theorem wa_NoName (a : Addr) (S : Store) : mOfE 2 a (g_law_word a "NoName") S = .ok (.tup [.str "refused", .int 0]) S := word_at a _ S (k := 0) (by rw [fl_NoName]; rfl) (by rw [fl_NoName]; rfl)
theorem wd_NoName (S : Store) : m_law_word "NoName" S = .ok (.tup [.str "refused", .int 0]) S := wa_NoName 0 S
theorem fl_NoCode : flagsD "NoCode" = [false, true, false, false, false, false, false].map D.bl := by
  have e : [isaX "NoCode" "NoName", isaX "NoCode" "NoCode", isaX "NoCode" "NoRight", isaX "NoCode" "Taken", isaX "NoCode" "NoTime", isaX "NoCode" "Locked", isaX "NoCode" "Wrong"] = [false, true, false, false, false, false, false] := by decide +kernel
  exact congrArg (List.map D.bl) e
theorem wa_NoCode (a : Addr) (S : Store) : mOfE 2 a (g_law_word a "NoCode") S = .ok (.tup [.str "refused", .int 1]) S := word_at a _ S (k := 1) (by rw [fl_NoCode]; rfl) (by rw [fl_NoCode]; rfl)
theorem wd_NoCode (S : Store) : m_law_word "NoCode" S = .ok (.tup [.str "refused", .int 1]) S := wa_NoCode 0 S
theorem fl_NoRight : flagsD "NoRight" = [false, false, true, false, false, false, false].map D.bl := by
  have e : [isaX "NoRight" "NoName", isaX "NoRight" "NoCode", isaX "NoRight" "NoRight", isaX "NoRight" "Taken", isaX "NoRight" "NoTime", isaX "NoRight" "Locked", isaX "NoRight" "Wrong"] = [false, false, true, false, false, false, false] := by decide +kernel
  exact congrArg (List.map D.bl) e
theorem wa_NoRight (a : Addr) (S : Store) : mOfE 2 a (g_law_word a "NoRight") S = .ok (.tup [.str "refused", .int 2]) S := word_at a _ S (k := 2) (by rw [fl_NoRight]; rfl) (by rw [fl_NoRight]; rfl)
theorem wd_NoRight (S : Store) : m_law_word "NoRight" S = .ok (.tup [.str "refused", .int 2]) S := wa_NoRight 0 S
theorem fl_Taken : flagsD "Taken" = [false, false, false, true, false, false, false].map D.bl := by
  have e : [isaX "Taken" "NoName", isaX "Taken" "NoCode", isaX "Taken" "NoRight", isaX "Taken" "Taken", isaX "Taken" "NoTime", isaX "Taken" "Locked", isaX "Taken" "Wrong"] = [false, false, false, true, false, false, false] := by decide +kernel
  exact congrArg (List.map D.bl) e
theorem wa_Taken (a : Addr) (S : Store) : mOfE 2 a (g_law_word a "Taken") S = .ok (.tup [.str "refused", .int 3]) S := word_at a _ S (k := 3) (by rw [fl_Taken]; rfl) (by rw [fl_Taken]; rfl)
theorem wd_Taken (S : Store) : m_law_word "Taken" S = .ok (.tup [.str "refused", .int 3]) S := wa_Taken 0 S
theorem fl_Wrong : flagsD "Wrong" = [false, false, false, false, false, false, true].map D.bl := by
  have e : [isaX "Wrong" "NoName", isaX "Wrong" "NoCode", isaX "Wrong" "NoRight", isaX "Wrong" "Taken", isaX "Wrong" "NoTime", isaX "Wrong" "Locked", isaX "Wrong" "Wrong"] = [false, false, false, false, false, false, true] := by decide +kernel
  exact congrArg (List.map D.bl) e
theorem wa_Wrong (a : Addr) (S : Store) : mOfE 2 a (g_law_word a "Wrong") S = .ok (.tup [.str "refused", .int 6]) S := word_at a _ S (k := 6) (by rw [fl_Wrong]; rfl) (by rw [fl_Wrong]; rfl)
theorem wd_Wrong (S : Store) : m_law_word "Wrong" S = .ok (.tup [.str "refused", .int 6]) S := wa_Wrong 0 S
theorem fl_Locked : flagsD "Locked" = [false, false, false, false, false, true, false].map D.bl := by
  have e : [isaX "Locked" "NoName", isaX "Locked" "NoCode", isaX "Locked" "NoRight", isaX "Locked" "Taken", isaX "Locked" "NoTime", isaX "Locked" "Locked", isaX "Locked" "Wrong"] = [false, false, false, false, false, true, false] := by decide +kernel
  exact congrArg (List.map D.bl) e
theorem wa_Locked (a : Addr) (S : Store) : mOfE 2 a (g_law_word a "Locked") S = .ok (.tup [.str "refused", .int 5]) S := word_at a _ S (k := 5) (by rw [fl_Locked]; rfl) (by rw [fl_Locked]; rfl)
theorem wd_Locked (S : Store) : m_law_word "Locked" S = .ok (.tup [.str "refused", .int 5]) S := wa_Locked 0 S
theorem ev_law_word : ∀ a c S, c ∈ XS → mOfE 2 a (g_law_word a c) S = m_law_word c S := by
  intro a c S hc
  simp only [XS, List.mem_cons, List.not_mem_nil, or_false] at hc
  rcases hc with rfl | rfl | rfl | rfl | rfl | rfl | rfl
  · rw [wa_NoTime, wd_NoTime]
  · rw [wa_NoName, wd_NoName]
  · rw [wa_NoCode, wd_NoCode]
  · rw [wa_NoRight, wd_NoRight]
  · rw [wa_Taken, wd_Taken]
  · rw [wa_Wrong, wd_Wrong]
  · rw [wa_Locked, wd_Locked]
/-! ### who has a code -/
def codeAt (rows : List (Key × D)) (d : D) : Str := match d with
  | .str n => match valD rows (.inr n) with
    | some (.tup (.str c :: _)) => c
    | _ => Str.empty
  | _ => Str.empty
/-- every key is a name, every row a code and its rights -/
def RowsOk (rows : List (Key × D)) : Prop := rows.length ≤ 20 ∧ ∀ kv ∈ rows, ∃ n c rs, kv.1 = .inr n ∧ PyData.strOk n = true ∧ valD rows (.inr n) = some (.tup [.str c, rs]) ∧ PyData.strOk c = true
def whoL (rows : List (Key × D)) (code : Str) : List D := (rows.map fun kv => kD kv.1).filter fun d => codeAt rows d == code
def whoD (rows : List (Key × D)) (code : Str) : D := match whoL rows code with
  | [] => .non
  | x :: _ => x
theorem eq_nil (S : Store) (neg : Bool) (l : List D) (h : okD 12 (.lst l) = true) : gEq neg (.lst l) (.lst []) S = some (.bl (xor neg (decide (l = [])))) := by
  rw [eq_ok S neg h rfl]
  cases l <;> rfl
theorem who_ev (s : CS) (hr : RowsOk s.rows) (code : Str) (hc : PyData.strOk code = true) : m_Codes_who [.ref 0, .str code] (Sto s) = .ok (whoD s.rows code) (Sto s) := by
  have keyOf : ∀ d ∈ s.rows.map (fun kv => kD kv.1), ∃ n c rs, d = .str n ∧ PyData.strOk n = true ∧ valD s.rows (.inr n) = some (.tup [.str c, rs]) ∧ PyData.strOk c = true := by
    intro d hd
    obtain ⟨kv, hkv, rfl⟩ := List.mem_map.mp hd
    obtain ⟨n, c, rs, e1, e2, e3, e4⟩ := hr.2 kv hkv
    exact ⟨n, c, rs, by simp only [e1, kD], e2, e3, e4⟩
  have cm := compL_filter (t := tgName 3) (ft := fB (f2 (gEq false) (f2 gIx (f2 gIx (fFld "Codes" "rows" (fV 0)) (fV 3)) (fC (.int 0))) (fV 1))) (fe := fV 3) (ρ := [some (.dat (.ref 0)), some (.dat (.str code)), none, none]) (S := Sto s) (fun d => codeAt s.rows d == code) (fun d => d) (s.rows.map fun kv => kD kv.1) [] (fun d hd => by
      obtain ⟨n, c, rs, rfl, hn, hv, hcc⟩ := keyOf d hd
      have i0 : gIx (.tup [.str c, rs]) (.int 0) (Sto s) = some (.str c) := rfl
      have q : gEq false (.str c) (.str code) (Sto s) = some (.bl (c == code)) := by rw [eq_ok (a := .str c) (b := .str code) _ false hcc hc, deq_str, Bool.false_xor]
      refine ⟨_, rfl, ?_, fun _ => by simp⟩
      simp [hv, i0, q, codeAt]) (by simp; have := hr.1; omega)
  simp only [List.nil_append, List.map_id'] at cm
  have ok : okD 12 (.lst (whoL s.rows code)) = true := by
    simp only [okD, List.all_eq_true]
    intro d hd
    obtain ⟨n, c, rs, rfl, hn, _⟩ := keyOf d (List.mem_filter.mp hd).1
    exact hn
  have q := eq_nil (Sto s) true (whoL s.rows code) ok
  have cm' : compL (tgName 3) (fB (f2 (gEq false) (f2 gIx (f2 gIx (fFld "Codes" "rows" (fV 0)) (fV 3)) (fC (.int 0))) (fV 1))) (fV 3) [some (.dat (.ref 0)), some (.dat (.str code)), none, none] (s.rows.map fun kv => kD kv.1) (Sto s) [] = .ok (whoL s.rows code) (Sto s) := cm
  unfold whoD
  cases hw : whoL s.rows code with
  | nil =>
    rw [hw] at q cm'
    simp [m_Codes_who, g_Codes_who, wipeE, cm', l0, q]
  | cons x l =>
    rw [hw] at q cm'
    have ix : gIx (.lst (x :: l)) (.int 0) (Sto s) = some x := by rw [ix_lst _ _ (by decide)]; rfl
    simp [m_Codes_who, g_Codes_who, wipeE, cm', l0, q, ix]
/-! ### asking -/
def wrongF (s : CS) (m : Int) : CS := if s.tries ≤ s.misses + 1 then { s with last := m, misses := 0, since := m, shut := m + s.rest } else { s with last := m, misses := s.misses + 1 }
def lockedB (s : CS) (m : Int) : Bool := decide (s.since ≤ m) && decide (m < s.shut)
section
variable (s : CS) (hr : RowsOk s.rows) {code right : Str} {m : Int}
theorem lt_ev (S : Store) (i j : Int) : gLt (.int i) (.int j) S = some (.bl (decide (i < j))) := rfl
theorem ge_ev (S : Store) (i j : Int) : gGe (.int i) (.int j) S = some (.bl (decide (j ≤ i))) := rfl
theorem ask_time (h : m < s.last) : m_Codes_ask [.ref 0, .str code, .int m, .str right] (Sto s) = .err "NoTime" (Sto s) := by
  simp [m_Codes_ask, g_Codes_ask, lt_ev, h]
theorem ask_locked (h : s.last ≤ m) (hl : lockedB s m = true) : m_Codes_ask [.ref 0, .str code, .int m, .str right] (Sto s) = .err "Locked" (Sto s) := by
  have h' : ¬ m < s.last := by omega
  have e := locked_ev s m
  rw [show (decide (s.since ≤ m) && decide (m < s.shut)) = true from hl] at e
  simp [m_Codes_ask, g_Codes_ask, lt_ev, h', e]
include hr in
theorem ask_wrong (h : s.last ≤ m) (hl : lockedB s m = false) (hc : PyData.strOk code = true) (hw : whoD s.rows code = .non) : m_Codes_ask [.ref 0, .str code, .int m, .str right] (Sto s) = .err "Wrong" (Sto (wrongF s m)) := by
  have h' : ¬ m < s.last := by omega
  have e := locked_ev s m
  rw [show (decide (s.since ≤ m) && decide (m < s.shut)) = false from hl] at e
  have w := who_ev { s with last := m } hr code hc
  dsimp only at w
  rw [hw] at w
  by_cases ht : s.tries ≤ s.misses + 1
  · simp [m_Codes_ask, g_Codes_ask, lt_ev, h', e, w, gIs, isNonD, ge_ev, ht, wrongF]
  · simp [m_Codes_ask, g_Codes_ask, lt_ev, h', e, w, gIs, isNonD, ge_ev, ht, wrongF]
include hr in
theorem ask_who {n c : Str} {rs : List Str} (h : s.last ≤ m) (hl : lockedB s m = false) (hc : PyData.strOk code = true) (hw : whoD s.rows code = .str n) (hv : valD s.rows (.inr n) = some (.tup [.str c, .tup (rs.map .str)])) (hs : rs.all PyData.strOk = true) (hright : PyData.strOk right = true) :
    m_Codes_ask [.ref 0, .str code, .int m, .str right] (Sto s) = if rs.any (· == right) = true then .ok (.str n) (Sto { s with last := m, misses := 0 }) else .err "NoRight" (Sto { s with last := m, misses := 0 }) := by
  have h' : ¬ m < s.last := by omega
  have e := locked_ev s m
  rw [show (decide (s.since ≤ m) && decide (m < s.shut)) = false from hl] at e
  have w := who_ev { s with last := m } hr code hc
  dsimp only at w
  rw [hw] at w
  have i1 : gIx (.tup [.str c, .tup (rs.map .str)]) (.int 1) (Sto { s with last := m, misses := 0 }) = some (.tup (rs.map .str)) := rfl
  have q := in_strs (Sto { s with last := m, misses := 0 }) true right rs hright hs
  cases hb : rs.any (· == right) with
  | true =>
    rw [hb] at q
    simp [m_Codes_ask, g_Codes_ask, lt_ev, h', e, w, gIs, isNonD, hv, i1, q]
  | false =>
    rw [hb] at q
    simp [m_Codes_ask, g_Codes_ask, lt_ev, h', e, w, gIs, isNonD, hv, i1, q]
end
/-! ### what is told -/
section
variable (s : CS) {code right : Str} {m : Int}
abbrev refD (k : Int) : D := .tup [.str "refused", .int k]
theorem told_ok {d : D} {s' : CS} (h : m_Codes_ask [.ref 0, .str code, .int m, .str right] (Sto s) = .ok d (Sto s')) : m_law_told [.ref 0, .str code, .int m, .str right] (Sto s) = .ok d (Sto s') := by
  simp [m_law_told, g_law_told, b_law_told_1, h]
theorem told_err {c : Str} {k : Int} {s' : CS} (h : m_Codes_ask [.ref 0, .str code, .int m, .str right] (Sto s) = .err c (Sto s')) (hc : c ∈ XS) (hw : ∀ S, m_law_word c S = .ok (refD k) S) : m_law_told [.ref 0, .str code, .int m, .str right] (Sto s) = .ok (refD k) (Sto s') := by
  simp [m_law_told, g_law_told, b_law_told_1, h, hc, hw]
theorem xs_mem (c : Str) (h : XS.any (· == c) = true) : c ∈ XS := by
  obtain ⟨x, hx, e⟩ := List.any_eq_true.mp h
  rw [← beq_iff_eq.mp e]; exact hx
theorem told_time (h : m < s.last) : m_law_told [.ref 0, .str code, .int m, .str right] (Sto s) = .ok (refD 4) (Sto s) := told_err s (ask_time s h) (xs_mem _ (by decide +kernel)) wd_NoTime
theorem told_locked (h : s.last ≤ m) (hl : lockedB s m = true) : m_law_told [.ref 0, .str code, .int m, .str right] (Sto s) = .ok (refD 5) (Sto s) := told_err s (ask_locked s h hl) (xs_mem _ (by decide +kernel)) wd_Locked
theorem told_wrong (hr : RowsOk s.rows) (h : s.last ≤ m) (hl : lockedB s m = false) (hc : PyData.strOk code = true) (hw : whoD s.rows code = .non) : m_law_told [.ref 0, .str code, .int m, .str right] (Sto s) = .ok (refD 6) (Sto (wrongF s m)) :=
  told_err s (ask_wrong s hr h hl hc hw) (xs_mem _ (by decide +kernel)) wd_Wrong
end
end BW
namespace BW
open PySem L2
/-! ### names, codes, rights -/
def inL (L : Str) (d : D) : Bool := match d with
  | .str y => match y.cps.toList with
    | [c] => decide (c ∈ L.cps.toList)
    | _ => false
  | _ => false
def signs (x : Str) : List D := x.cps.toList.map fun c => .str ⟨#[c]⟩
def nameOk (x : Str) : Bool := decide (1 ≤ x.length) && decide (x.length ≤ 6) && (signs x).all (inL "abcdefghijklmnopqrstuvwxyz")
def codeOk (x : Str) : Bool := decide (4 ≤ x.length) && decide (x.length ≤ 6) && (signs x).all (inL "0123456789")
theorem in_sign (S : Store) (L : Str) (d : D) (x : Str) (h : d ∈ signs x) : gIn false d (.str L) S = some (.bl (inL L d)) := by
  obtain ⟨c, _, rfl⟩ := List.mem_map.mp h
  show some (D.bl (xor false _)) = _
  rw [Bool.false_xor]; rfl
theorem signs_len (x : Str) : (signs x).length = x.length := by simp [signs, Str.length]
theorem name_ev (S : Store) (x : Str) (hx : x.length ≤ 1000) : m_is_name [.str x] S = .ok (.bl (nameOk x)) S := by
  have gl : gLen [.str x] S = some (.int (x.length : Nat)) := by
    show (if _ then _ else _) = _
    rw [if_pos (lim_small hx)]
  have cm := compL_map (t := tgName 1) (fe := f2 (gInX false) (fV 1) (fC (.str "abcdefghijklmnopqrstuvwxyz"))) (ρ := [some (.dat (.str x)), none]) (S := S) (fun d => .bl (inL "abcdefghijklmnopqrstuvwxyz" d)) (signs x) [] (fun d hd => ⟨_, rfl, by simp [in_sign S _ d x hd]⟩) (by rw [signs_len]; simp; omega)
  simp only [List.nil_append] at cm
  have fi : fItems (fV 0) [some (.dat (.str x)), none] S = .ok (signs x) S := rfl
  unfold nameOk
  by_cases h1 : 1 ≤ x.length
  · have h1' : (1 : Int) ≤ (x.length : Int) := by omega
    by_cases h2 : x.length ≤ 6
    · have h2' : (x.length : Int) ≤ 6 := by omega
      simp [-e_fItems, fi, m_is_name, g_is_name, isStrD, gl, gI2, h1, h2, h1', h2', wipeE, cm, all_map]
    · have h2' : ¬ (x.length : Int) ≤ 6 := by omega
      simp [m_is_name, g_is_name, isStrD, gl, gI2, h1, h2, h1', h2']
  · have h1' : ¬ (1 : Int) ≤ (x.length : Int) := by omega
    simp [m_is_name, g_is_name, isStrD, gl, gI2, h1, h1']
theorem code_ev (S : Store) (x : Str) (hx : x.length ≤ 1000) : m_is_code [.str x] S = .ok (.bl (codeOk x)) S := by
  have gl : gLen [.str x] S = some (.int (x.length : Nat)) := by
    show (if _ then _ else _) = _
    rw [if_pos (lim_small hx)]
  have cm := compL_map (t := tgName 1) (fe := f2 (gInX false) (fV 1) (fC (.str "0123456789"))) (ρ := [some (.dat (.str x)), none]) (S := S) (fun d => .bl (inL "0123456789" d)) (signs x) [] (fun d hd => ⟨_, rfl, by simp [in_sign S _ d x hd]⟩) (by rw [signs_len]; simp; omega)
  simp only [List.nil_append] at cm
  have fi : fItems (fV 0) [some (.dat (.str x)), none] S = .ok (signs x) S := rfl
  unfold codeOk
  by_cases h1 : 4 ≤ x.length
  · have h1' : (4 : Int) ≤ (x.length : Int) := by omega
    by_cases h2 : x.length ≤ 6
    · have h2' : (x.length : Int) ≤ 6 := by omega
      simp [-e_fItems, fi, m_is_code, g_is_code, isStrD, gl, gI2, h1, h2, h1', h2', wipeE, cm, all_map]
    · have h2' : ¬ (x.length : Int) ≤ 6 := by omega
      simp [m_is_code, g_is_code, isStrD, gl, gI2, h1, h2, h1', h2']
  · have h1' : ¬ (4 : Int) ≤ (x.length : Int) := by omega
    simp [m_is_code, g_is_code, isStrD, gl, gI2, h1, h1']
def rightsOk (d : D) : Bool := [D.tup [], .tup [.str "lift"], .tup [.str "set"], .tup [.str "lift", .str "set"]].any fun z => deq z d
theorem rights_ev (S : Store) (l : List D) (h : okD 12 (.tup l) = true) : m_are_rights [.tup l] S = .ok (.bl (rightsOk (.tup l))) S := by
  have q : gIn false (.tup l) (.tup [D.tup [], .tup [.str "lift"], .tup [.str "set"], .tup [.str "lift", .str "set"]]) S = some (.bl (rightsOk (.tup l))) := by
    show (if okD 12 (.tup l) && okD 12 (.tup [D.tup [], .tup [.str "lift"], .tup [.str "set"], .tup [.str "lift", .str "set"]]) then some (D.bl (xor false _)) else none) = _
    rw [h, show okD 12 (.tup [D.tup [], .tup [.str "lift"], .tup [.str "set"], .tup [.str "lift", .str "set"]]) = true by decide +kernel, Bool.false_xor]
    rfl
  simp [m_are_rights, g_are_rights, isTupD, l0, l1, l4, q]
/-! ### giving -/
theorem putD_new {kvs : List (Key × D)} {k : Key} {v : D} (h : valD kvs k = none) : putD kvs k v = kvs ++ [(k, v)] := by
  unfold putD
  rw [if_neg]
  intro ha
  obtain ⟨kv, hkv, e⟩ := List.any_eq_true.mp ha
  simp only [valD, Option.map_eq_none_iff] at h
  exact (List.find?_eq_none.mp h) kv hkv e
theorem give_ev (s : CS) (hr : RowsOk s.rows) {x y : Str} {l : List D} (hx : x.length ≤ 1000) (hy : y.length ≤ 1000) (h1 : nameOk x = true) (h2 : codeOk y = true) (h3 : okD 12 (.tup l) = true) (h4 : rightsOk (.tup l) = true) (h5 : valD s.rows (.inr x) = none) (h6 : PyData.strOk y = true) (h7 : whoD s.rows y = .non) :
    ∃ d, m_Codes_give [.ref 0, .str x, .str y, .tup l] (Sto s) = .ok d (Sto { s with rows := s.rows ++ [(.inr x, .tup [.str y, .tup l])] }) := by
  have e1 := name_ev (Sto s) x hx
  have e2 := code_ev (Sto s) y hy
  have e3 := rights_ev (Sto s) l h3
  rw [h1] at e1
  rw [h2] at e2
  rw [h4] at e3
  have w := who_ev s hr y h6
  rw [h7] at w
  have hl : s.rows.length < LIM := limlt_small (by have := hr.1; omega)
  refine ⟨.int ((s.rows.length + 1 : Nat) : Int), ?_⟩
  simp [m_Codes_give, g_Codes_give, e1, e2, e3, h5, w, gIs, isNonD, sPutOwnD, sFreeze, keyD, hl, l2, putD_new h5]
/-! ### the rows -/
abbrev kA : Key × D := (.inr "ann", .tup [.str "1111", .tup (([("lift" : Str), "set"]).map .str)])
abbrev kB : Key × D := (.inr "bo", .tup [.str "2222", .tup (([("lift" : Str)]).map .str)])
abbrev kC : Key × D := (.inr "cy", .tup [.str "4440", .tup []])
abbrev kDd : Key × D := (.inr "cya", .tup [.str "4441", .tup []])
theorem tst : valD [kA, kB, kC, kDd] (.inr "bo") = some (.tup [.str "2222", .tup (([("lift" : Str)]).map .str)]) := by kernel_rfl
theorem tst2 : whoD [kA, kB, kC, kDd] "2222" = .str "bo" := by kernel_rfl
end BW
namespace BW
open PySem L2
def rowsT : Nat → List (Key × D)
  | 0 => [kA, kB]
  | 1 => [kA, kB, kC]
  | _ => [kA, kB, kC, kDd]
theorem rows_ok (t : Nat) : RowsOk (rowsT t) := by
  match t with
  | 0 =>
    refine ⟨by decide, fun kv h => ?_⟩
    simp only [rowsT, List.mem_cons, List.not_mem_nil, or_false] at h
    rcases h with rfl | rfl
    · exact ⟨"ann", "1111", .tup (([("lift" : Str), "set"]).map .str), rfl, by decide +kernel, by kernel_rfl, by decide +kernel⟩
    · exact ⟨"bo", "2222", .tup (([("lift" : Str)]).map .str), rfl, by decide +kernel, by kernel_rfl, by decide +kernel⟩
  | 1 =>
    refine ⟨by decide, fun kv h => ?_⟩
    simp only [rowsT, List.mem_cons, List.not_mem_nil, or_false] at h
    rcases h with rfl | rfl | rfl
    · exact ⟨"ann", "1111", .tup (([("lift" : Str), "set"]).map .str), rfl, by decide +kernel, by kernel_rfl, by decide +kernel⟩
    · exact ⟨"bo", "2222", .tup (([("lift" : Str)]).map .str), rfl, by decide +kernel, by kernel_rfl, by decide +kernel⟩
    · exact ⟨"cy", "4440", .tup [], rfl, by decide +kernel, by kernel_rfl, by decide +kernel⟩
  | n + 2 =>
    refine ⟨by simp [rowsT], fun kv h => ?_⟩
    simp only [rowsT, List.mem_cons, List.not_mem_nil, or_false] at h
    rcases h with rfl | rfl | rfl | rfl
    · exact ⟨"ann", "1111", .tup (([("lift" : Str), "set"]).map .str), rfl, by decide +kernel, by kernel_rfl, by decide +kernel⟩
    · exact ⟨"bo", "2222", .tup (([("lift" : Str)]).map .str), rfl, by decide +kernel, by kernel_rfl, by decide +kernel⟩
    · exact ⟨"cy", "4440", .tup [], rfl, by decide +kernel, by kernel_rfl, by decide +kernel⟩
    · exact ⟨"cya", "4441", .tup [], rfl, by decide +kernel, by kernel_rfl, by decide +kernel⟩
/-- what is asked of the rows in a turn -/
structure RT (r : List (Key × D)) : Prop where
  ok : RowsOk r
  w3 : whoD r "3333" = .non
  w6 : whoD r "333333" = .non
  w2 : whoD r "2222" = .str "bo"
  w1 : whoD r "1111" = .str "ann"
  vA : valD r (.inr "ann") = some (.tup [.str "1111", .tup (([("lift" : Str), "set"]).map .str)])
  vB : valD r (.inr "bo") = some (.tup [.str "2222", .tup (([("lift" : Str)]).map .str)])
theorem rt (t : Nat) : RT (rowsT t) := by
  match t with
  | 0 => exact ⟨rows_ok 0, by kernel_rfl, by kernel_rfl, by kernel_rfl, by kernel_rfl, by kernel_rfl, by kernel_rfl⟩
  | 1 => exact ⟨rows_ok 1, by kernel_rfl, by kernel_rfl, by kernel_rfl, by kernel_rfl, by kernel_rfl, by kernel_rfl⟩
  | n + 2 => exact ⟨rows_ok (n + 2), by kernel_rfl, by kernel_rfl, by kernel_rfl, by kernel_rfl, by kernel_rfl, by kernel_rfl⟩
section
variable (s : CS) {m : Int} (R : RT s.rows)
theorem ok_str {x : Str} (h : PyData.strOk x = true) : okD 12 (.str x) = true := h
include R in
theorem t_3333 (h : s.last ≤ m) (hl : lockedB s m = false) : m_law_told [.ref 0, .str "3333", .int m, .str "lift"] (Sto s) = .ok (refD 6) (Sto (wrongF s m)) := told_wrong s R.ok h hl (by decide +kernel) R.w3
include R in
theorem t_333333 (h : s.last ≤ m) (hl : lockedB s m = false) : m_law_told [.ref 0, .str "333333", .int m, .str "set"] (Sto s) = .ok (refD 6) (Sto (wrongF s m)) := told_wrong s R.ok h hl (by decide +kernel) R.w6
include R in
theorem t_2222 (h : s.last ≤ m) (hl : lockedB s m = false) : m_law_told [.ref 0, .str "2222", .int m, .str "set"] (Sto s) = .ok (refD 2) (Sto { s with last := m, misses := 0 }) := by
  have a := ask_who s R.ok (right := "set") h hl (by decide +kernel) R.w2 R.vB (by decide +kernel) (by decide +kernel)
  rw [if_neg (by decide +kernel)] at a
  exact told_err s a (xs_mem _ (by decide +kernel)) wd_NoRight
include R in
theorem t_1111 {right : Str} (hr : [("lift" : Str), "set"].any (· == right) = true) (hs : PyData.strOk right = true) (h : s.last ≤ m) (hl : lockedB s m = false) : m_law_told [.ref 0, .str "1111", .int m, .str right] (Sto s) = .ok (.str "ann") (Sto { s with last := m, misses := 0 }) := by
  have a := ask_who s R.ok (right := right) h hl (by decide +kernel) R.w1 R.vA (by decide +kernel) hs
  rw [if_pos hr] at a
  exact told_ok s a
end
theorem ref_eq (S : Store) (k : Int) : gEq true (refD k) (refD k) S = some (.bl false) := by
  rw [eq_ok S true (show okD 12 (refD k) = true by simp [okD, refD]; decide +kernel) (show okD 12 (refD k) = true by simp [okD, refD]; decide +kernel)]
  have : deq (refD k) (refD k) = true := by
    show PyData.eqv (.tuple _) (.tuple _) = true
    simp [toPys, toPy, PyData.eqv, PyData.eqvAll]
  rw [this]; rfl
theorem ann_eq (S : Store) : gEq true (.str "ann") (.str "ann") S = some (.bl false) := by
  rw [eq_ok (a := .str "ann") (b := .str "ann") S true (by decide +kernel) (by decide +kernel), deq_str]
  simp
theorem out_ev (s : CS) {m : Int} (h : s.last ≤ m) (hl : lockedB s m = true) : m_law_is_out [.ref 0, .int m] (Sto s) = .ok (.bl true) (Sto s) := by
  have t1 := told_locked s (code := "1111") (right := "lift") h hl
  have t2 := told_locked s (code := "3333") (right := "lift") h hl
  have e := locked_ev s m
  rw [show (decide (s.since ≤ m) && decide (m < s.shut)) = true from hl] at e
  have gm : gMul (.lst [refD 5]) (.int 2) (Sto s) = some (.lst [refD 5, refD 5]) := by
    show (if (0 : Int) ≤ 2 ∧ (2 : Int) ≤ 1000 ∧ [refD 5].length ≤ 100 then some (D.lst (List.replicate (2 : Int).toNat [refD 5]).flatten) else none) = _
    rw [if_pos ⟨by decide, by decide, by simp⟩]
    rfl
  have ge : gEq false (.lst [refD 5, refD 5]) (.lst [refD 5, refD 5]) (Sto s) = some (.bl true) := by
    rw [eq_ok _ false (show okD 12 (.lst [refD 5, refD 5]) = true by decide +kernel) (show okD 12 (.lst [refD 5, refD 5]) = true by decide +kernel), show deq (.lst [refD 5, refD 5]) (.lst [refD 5, refD 5]) = true by decide +kernel]
    rfl
  have lt1 : ¬ LIM ≤ 0 := by decide
  have z0 : (0 : Nat) < LIM := by decide
  have z1 : (1 : Nat) < LIM := by decide
  simp [m_law_is_out, g_law_is_out, l2, compL, wipeE, t1, t2, e, l1, gm, ge, z0, z1]
end BW
namespace BW
open PySem L2
theorem forL_inv2 {t : Tgt} {g : Stm} (I : Nat → Env → Store → Prop) : ∀ (xs : List D) (i : Nat) (ρ : Env) (S : Store), I i ρ S → (∀ j x ρ S, xs[j]? = some x → I (i + j) ρ S → ∃ ρ1 ρ2 S2, t x ρ = some ρ1 ∧ g ρ1 S = .next ρ2 S2 ∧ I (i + j + 1) ρ2 S2) → ∃ ρ' S', forL t g xs ρ S = .next ρ' S' ∧ I (i + xs.length) ρ' S'
  | [], i, ρ, S, h, _ => ⟨ρ, S, rfl, h⟩
  | x :: xs, i, ρ, S, h, st => by
    obtain ⟨ρ1, ρ2, S2, e1, e2, h2⟩ := st 0 x ρ S rfl h
    obtain ⟨ρ', S', e, h'⟩ := forL_inv2 I xs (i + 1) ρ2 S2 h2 fun j y ρ S hy hI => by
      have := st (j + 1) y ρ S hy (by rw [show i + (j + 1) = i + 1 + j by omega]; exact hI)
      rw [show i + (j + 1) = i + 1 + j by omega] at this
      exact this
    refine ⟨ρ', S', ?_, by rw [List.length_cons, show i + (xs.length + 1) = i + 1 + xs.length by omega]; exact h'⟩
    simp only [forL, e1, e2, e]
theorem rng_at {lo : Int} {n j : Nat} {x : D} (h : (rngD lo n)[j]? = some x) : x = .int (lo + (j : Int)) ∧ j < n := by
  unfold rngD at h
  simp only [List.getElem?_map, Option.map_eq_some_iff] at h
  obtain ⟨a, ha, rfl⟩ := h
  have hj : j < n := by
    have := (List.getElem?_eq_some_iff.mp ha).1
    simpa using this
  rw [List.getElem?_range hj] at ha
  cases ha
  exact ⟨rfl, hj⟩
theorem rng_len (lo : Int) (n : Nat) : (rngD lo n).length = n := by simp [rngD]
theorem rng1_ok {j : Int} (h : 0 ≤ j ∧ j < 2 ^ 62) : kRng1 [.int j] = some (rngD 0 j.toNat) := by
  simp only [kRng1]
  rw [if_pos ⟨by omega, h.2⟩]
theorem ref_eq' (S : Store) (k : Int) : gEq true (.tup [.str "refused", .int k]) (.tup [.str "refused", .int k]) S = some (.bl false) := ref_eq S k
theorem notlocked {s : CS} {m : Int} (h : s.shut ≤ m) : lockedB s m = false := by
  unfold lockedB
  rw [decide_eq_false (show ¬ m < s.shut by omega)]
  simp
/-- a state between the steps of a turn -/
abbrev Ro (ns : List Int) (T Rr m : Int) (s5 s6 s7 s8 : Option Slot) : Env := [some (.dat (.scr ns)), some (.dat (.int T)), some (.dat (.int Rr)), some (.dat (.ref 0)), some (.dat (.int m)), s5, s6, s7, s8]
def I1 (ns : List Int) (T Rr m0 : Int) (r : List (Key × D)) (s5 s7 s8 : Option Slot) (j : Nat) (ρ : Env) (S : Store) : Prop := ∃ m s6 si sh la, ρ = Ro ns T Rr m s5 s6 s7 s8 ∧ S = Sto ⟨T, Rr, r, j, si, sh, la⟩ ∧ la ≤ m ∧ sh ≤ m ∧ m0 ≤ m
theorem loop1 (ns : List Int) (hn : ns.length ≤ 63) {T Rr m : Int} {r : List (Key × D)} (R : RT r) {s5 s6 s7 s8 : Option Slot} {si sh la : Int} (n : Nat) (hT : (n : Int) < T) (h1 : la ≤ m) (h2 : sh ≤ m) :
    ∃ m' s6' si' sh' la', forL (tgName 6) b_law_1 (rngD 0 n) (Ro ns T Rr m s5 s6 s7 s8) (Sto ⟨T, Rr, r, 0, si, sh, la⟩) = .next (Ro ns T Rr m' s5 s6' s7 s8) (Sto ⟨T, Rr, r, (n : Int), si', sh', la'⟩) ∧ la' ≤ m' ∧ sh' ≤ m' ∧ m ≤ m' := by
  obtain ⟨ρ', S', e, m', s6', si', sh', la', rfl, rfl, q1, q2, q3⟩ := forL_inv2 (t := tgName 6) (g := b_law_1) (I1 ns T Rr m r s5 s7 s8) (rngD 0 n) 0 (Ro ns T Rr m s5 s6 s7 s8) (Sto ⟨T, Rr, r, 0, si, sh, la⟩) ⟨m, s6, si, sh, la, rfl, rfl, h1, h2, by omega⟩ (fun j x ρ S hx hI => by
    obtain ⟨m1, z6, si1, sh1, la1, rfl, rfl, p1, p2, p3⟩ := hI
    obtain ⟨rfl, hj⟩ := rng_at hx
    have nl := notlocked (s := ⟨T, Rr, r, ((0 + j : Nat) : Int), si1, sh1, la1⟩) (m := m1) p2
    have a : m_law_told [.ref 0, .str "3333", .int m1, .str "lift"] (Sto ⟨T, Rr, r, ((0 + j : Nat) : Int), si1, sh1, la1⟩) = .ok (.tup [.str "refused", .int 6]) _ := t_3333 ⟨T, Rr, r, ((0 + j : Nat) : Int), si1, sh1, la1⟩ R p1 nl
    have wf : wrongF ⟨T, Rr, r, ((0 + j : Nat) : Int), si1, sh1, la1⟩ m1 = ⟨T, Rr, r, ((0 + j + 1 : Nat) : Int), si1, sh1, m1⟩ := by
      unfold wrongF
      rw [if_neg (by dsimp only; omega)]
      simp
    rw [wf] at a
    have lk := locked_ev ⟨T, Rr, r, ((0 + j + 1 : Nat) : Int), si1, sh1, m1⟩ m1
    have hsh : ¬ m1 < sh1 := by omega
    dsimp only at lk
    rw [decide_eq_false hsh, Bool.and_false] at lk
    have d3 := drawn_ev ns hn (10 + (0 + (j : Int))) 3 (by decide) (Sto ⟨T, Rr, r, ((0 + j + 1 : Nat) : Int), si1, sh1, m1⟩)
    have r3 := drawn_lt ns (10 + (0 + (j : Int))) (many := 3) (by decide)
    refine ⟨_, Ro ns T Rr (m1 + drawnF ns (10 + (0 + (j : Int))) 3) s5 (some (.dat (.int (0 + (j : Int))))) s7 s8, Sto ⟨T, Rr, r, ((0 + j + 1 : Nat) : Int), si1, sh1, m1⟩, rfl, ?_, _, _, si1, sh1, m1, rfl, rfl, by omega, by omega, by omega⟩
    simp only [Nat.zero_add, Int.zero_add, Int.natCast_add, Int.natCast_one] at a lk d3 ⊢
    simp [b_law_1, a, l2, ref_eq', lk, d3])
  rw [rng_len, Nat.zero_add] at e
  exact ⟨m', s6', si', sh', la', e, q1, q2, q3⟩
def I2 (ns : List Int) (T Rr m : Int) (r : List (Key × D)) (s5 s7 s8 : Option Slot) (j : Nat) (ρ : Env) (S : Store) : Prop := ∃ s6, ρ = Ro ns T Rr m s5 s6 s7 s8 ∧ (((j : Int) < T ∧ ∃ si sh la, S = Sto ⟨T, Rr, r, j, si, sh, la⟩ ∧ la ≤ m ∧ sh ≤ m) ∨ ((j : Int) = T ∧ S = Sto ⟨T, Rr, r, 0, m, m + Rr, m⟩))
theorem loop2 (ns : List Int) {T Rr m : Int} {r : List (Key × D)} (R : RT r) {s5 s6 s7 s8 : Option Slot} {si sh la : Int} (hT : 0 < T) (h1 : la ≤ m) (h2 : sh ≤ m) :
    ∃ s6', forL (tgName 6) b_law_2 (rngD 0 T.toNat) (Ro ns T Rr m s5 s6 s7 s8) (Sto ⟨T, Rr, r, 0, si, sh, la⟩) = .next (Ro ns T Rr m s5 s6' s7 s8) (Sto ⟨T, Rr, r, 0, m, m + Rr, m⟩) := by
  obtain ⟨ρ', S', e, s6', rfl, q⟩ := forL_inv2 (t := tgName 6) (g := b_law_2) (I2 ns T Rr m r s5 s7 s8) (rngD 0 T.toNat) 0 (Ro ns T Rr m s5 s6 s7 s8) (Sto ⟨T, Rr, r, 0, si, sh, la⟩) ⟨s6, rfl, .inl ⟨by simpa using hT, si, sh, la, rfl, h1, h2⟩⟩ (fun j x ρ S hx hI => by
    obtain ⟨rfl, hj⟩ := rng_at hx
    obtain ⟨z6, rfl, hq⟩ := hI
    rcases hq with ⟨hlt, si1, sh1, la1, rfl, p1, p2⟩ | ⟨hb, _⟩
    · have nl := notlocked (s := ⟨T, Rr, r, ((0 + j : Nat) : Int), si1, sh1, la1⟩) (m := m) p2
      have a : m_law_told [.ref 0, .str "333333", .int m, .str "set"] (Sto ⟨T, Rr, r, ((0 + j : Nat) : Int), si1, sh1, la1⟩) = .ok (.tup [.str "refused", .int 6]) _ := t_333333 ⟨T, Rr, r, ((0 + j : Nat) : Int), si1, sh1, la1⟩ R p1 nl
      have lk := locked_ev ⟨T, Rr, r, ((0 + j : Nat) : Int), si1, sh1, la1⟩ m
      have hsh : ¬ m < sh1 := by omega
      dsimp only at lk
      rw [decide_eq_false hsh, Bool.and_false] at lk
      by_cases hl : T ≤ ((0 + j : Nat) : Int) + 1
      · have wf : wrongF ⟨T, Rr, r, ((0 + j : Nat) : Int), si1, sh1, la1⟩ m = ⟨T, Rr, r, 0, m, m + Rr, m⟩ := by
          unfold wrongF
          rw [if_pos (by dsimp only; omega)]
        rw [wf] at a
        refine ⟨_, Ro ns T Rr m s5 (some (.dat (.int (0 + (j : Int))))) s7 s8, Sto ⟨T, Rr, r, 0, m, m + Rr, m⟩, rfl, ?_, _, rfl, .inr ⟨by omega, rfl⟩⟩
        simp only [Nat.zero_add, Int.zero_add, Int.natCast_add, Int.natCast_one] at a lk ⊢
        simp [b_law_2, a, l2, ref_eq', lk]
      · have wf : wrongF ⟨T, Rr, r, ((0 + j : Nat) : Int), si1, sh1, la1⟩ m = ⟨T, Rr, r, ((0 + j + 1 : Nat) : Int), si1, sh1, m⟩ := by
          unfold wrongF
          rw [if_neg (by dsimp only; omega)]
          simp
        rw [wf] at a
        refine ⟨_, Ro ns T Rr m s5 (some (.dat (.int (0 + (j : Int))))) s7 s8, Sto ⟨T, Rr, r, ((0 + j + 1 : Nat) : Int), si1, sh1, m⟩, rfl, ?_, _, rfl, .inl ⟨by omega, si1, sh1, m, rfl, by omega, by omega⟩⟩
        simp only [Nat.zero_add, Int.zero_add, Int.natCast_add, Int.natCast_one] at a lk ⊢
        simp [b_law_2, a, l2, ref_eq', lk]
    · omega)
  rw [rng_len, Nat.zero_add] at q
  rcases q with ⟨hlt, _⟩ | ⟨_, rfl⟩
  · omega
  · exact ⟨s6', e⟩
end BW
namespace BW
open PySem L2
/-- what is given in a turn -/
structure Gv (t : Nat) (z1 z2 nm cd : Str) : Prop where
  g1 : ∀ S, gMulX (.str "a") (.int (t : Int)) S = some (.str z1)
  g2 : ∀ S, gAdd (.str "cy") (.str z1) S = some (.str nm)
  g3 : ∀ S, gStr [.int (t : Int)] S = some (.str z2)
  g4 : ∀ S, gAdd (.str "444") (.str z2) S = some (.str cd)
  n1 : nm.length ≤ 1000
  n2 : cd.length ≤ 1000
  n3 : nameOk nm = true
  n4 : codeOk cd = true
  n5 : valD (rowsT t) (.inr nm) = none
  n6 : PyData.strOk cd = true
  n7 : whoD (rowsT t) cd = .non
  n8 : rowsT t ++ [(.inr nm, .tup [.str cd, .tup []])] = rowsT (t + 1)
theorem gv {t : Nat} (h : t < 2) : ∃ z1 z2 nm cd, Gv t z1 z2 nm cd := by
  match t, h with
  | 0, _ => exact ⟨"", "0", "cy", "4440", ⟨fun S => by kernel_rfl, fun S => by kernel_rfl, fun S => by kernel_rfl, fun S => by kernel_rfl, by decide +kernel, by decide +kernel, by decide +kernel, by decide +kernel, by kernel_rfl, by decide +kernel, by kernel_rfl, by kernel_rfl⟩⟩
  | 1, _ => exact ⟨"a", "1", "cya", "4441", ⟨fun S => by kernel_rfl, fun S => by kernel_rfl, fun S => by kernel_rfl, fun S => by kernel_rfl, by decide +kernel, by decide +kernel, by decide +kernel, by decide +kernel, by kernel_rfl, by decide +kernel, by kernel_rfl, by kernel_rfl⟩⟩
def TI (ns : List Int) (T Rr : Int) (t : Nat) (ρ : Env) (S : Store) : Prop := ∃ m s5 s6 s7 s8 si sh la, ρ = Ro ns T Rr m s5 s6 s7 s8 ∧ S = Sto ⟨T, Rr, rowsT t, 0, si, sh, la⟩ ∧ la ≤ m ∧ sh ≤ m
theorem turn_ok (ns : List Int) (hn : ns.length ≤ 63) {T Rr : Int} (hT : 0 < T ∧ T ≤ 5) (hR : 2 ≤ Rr) {t : Nat} (ht : t < 2) {ρ : Env} {S : Store} (h : TI ns T Rr t ρ S) : ∃ ρ1 ρ2 S2, tgName 5 (.int (t : Int)) ρ = some ρ1 ∧ b_law_3 ρ1 S = .next ρ2 S2 ∧ TI ns T Rr (t + 1) ρ2 S2 := by
  obtain ⟨m, s5, s6, s7, s8, si, sh, la, rfl, rfl, h1, h2⟩ := h
  obtain ⟨z1, z2, nm, cd, G⟩ := gv ht
  have dn := drawn_ev ns hn (3 + (t : Int)) T hT.1 (Sto ⟨T, Rr, rowsT t, 0, si, sh, la⟩)
  have rn := drawn_lt ns (3 + (t : Int)) hT.1
  have k1 := rng1_ok (j := drawnF ns (3 + (t : Int)) T) (by omega)
  have k2 := rng1_ok (j := T) (by omega)
  obtain ⟨m1, s6', si', sh', la', e1, p1, p2, p3⟩ := loop1 ns hn (T := T) (Rr := Rr) (m := m) (rt t) (s5 := some (.dat (.int (t : Int)))) (s6 := s6) (s7 := s7) (s8 := s8) (si := si) (sh := sh) (la := la) (drawnF ns (3 + (t : Int)) T).toNat (by omega) h1 h2
  generalize ((drawnF ns (3 + (t : Int)) T).toNat : Int) = n at e1
  have a2 : m_law_told [.ref 0, .str "2222", .int m1, .str "set"] (Sto ⟨T, Rr, rowsT t, n, si', sh', la'⟩) = .ok (.tup [.str "refused", .int 2]) (Sto ⟨T, Rr, rowsT t, 0, si', sh', m1⟩) := t_2222 ⟨T, Rr, rowsT t, n, si', sh', la'⟩ (rt t) p1 (notlocked p2)
  have a1 : m_law_told [.ref 0, .str "1111", .int m1, .str "set"] (Sto ⟨T, Rr, rowsT t, 0, si', sh', m1⟩) = .ok (.str "ann") (Sto ⟨T, Rr, rowsT t, 0, si', sh', m1⟩) := t_1111 ⟨T, Rr, rowsT t, 0, si', sh', m1⟩ (rt t) (by decide +kernel) (by decide +kernel) (Int.le_refl _) (notlocked p2)
  obtain ⟨s6'', e2⟩ := loop2 ns (T := T) (Rr := Rr) (m := m1) (rt t) (s5 := some (.dat (.int (t : Int)))) (s6 := s6') (s7 := s7) (s8 := s8) (si := si') (sh := sh') (la := m1) hT.1 (Int.le_refl _) p2
  obtain ⟨dg, g⟩ := give_ev ⟨T, Rr, rowsT t, 0, m1, m1 + Rr, m1⟩ (rows_ok t) (x := nm) (y := cd) (l := []) G.n1 G.n2 G.n3 G.n4 rfl (by decide +kernel) G.n5 G.n6 G.n7
  dsimp only at g
  rw [G.n8] at g
  have fd : gFdiv (.int Rr) (.int 2) (Sto ⟨T, Rr, rowsT (t + 1), 0, m1, m1 + Rr, m1⟩) = some (.int (Rr / 2)) := fdiv_ok _ (by decide) (by decide)
  have lb : ∀ x, m1 ≤ x → x < m1 + Rr → lockedB ⟨T, Rr, rowsT (t + 1), 0, m1, m1 + Rr, m1⟩ x = true := fun x q1 q2 => by
    unfold lockedB
    rw [decide_eq_true q1, decide_eq_true q2]; rfl
  have o1 := out_ev ⟨T, Rr, rowsT (t + 1), 0, m1, m1 + Rr, m1⟩ (m := m1) (Int.le_refl _) (lb _ (Int.le_refl _) (by omega))
  have o2 := out_ev ⟨T, Rr, rowsT (t + 1), 0, m1, m1 + Rr, m1⟩ (m := m1 + Rr / 2) (show m1 ≤ _ by omega) (lb _ (by omega) (by omega))
  have o3 := out_ev ⟨T, Rr, rowsT (t + 1), 0, m1, m1 + Rr, m1⟩ (m := m1 + Rr - 1) (show m1 ≤ _ by omega) (lb _ (by omega) (by omega))
  have lk := locked_ev ⟨T, Rr, rowsT (t + 1), 0, m1, m1 + Rr, m1⟩ (m1 + Rr)
  dsimp only at lk
  rw [decide_eq_false (show ¬ m1 + Rr < m1 + Rr by omega), Bool.and_false] at lk
  have a3 : m_law_told [.ref 0, .str "1111", .int (m1 + Rr), .str "lift"] (Sto ⟨T, Rr, rowsT (t + 1), 0, m1, m1 + Rr, m1⟩) = .ok (.str "ann") (Sto ⟨T, Rr, rowsT (t + 1), 0, m1, m1 + Rr, m1 + Rr⟩) := t_1111 ⟨T, Rr, rowsT (t + 1), 0, m1, m1 + Rr, m1⟩ (rt (t + 1)) (by decide +kernel) (by decide +kernel) (show m1 ≤ m1 + Rr by omega) (notlocked (Int.le_refl _))
  have a4 : m_law_told [.ref 0, .str "2222", .int (m1 + Rr - 1), .str "lift"] (Sto ⟨T, Rr, rowsT (t + 1), 0, m1, m1 + Rr, m1 + Rr⟩) = .ok (.tup [.str "refused", .int 4]) (Sto ⟨T, Rr, rowsT (t + 1), 0, m1, m1 + Rr, m1 + Rr⟩) := told_time ⟨T, Rr, rowsT (t + 1), 0, m1, m1 + Rr, m1 + Rr⟩ (show m1 + Rr - 1 < m1 + Rr by omega)
  have z0 : (0 : Nat) < LIM := by decide
  have z1' : (1 : Nat) < LIM := by decide
  have z2' : (2 : Nat) < LIM := by decide
  have ga : ∀ S, gAll [.lst [.bl true, .bl true, .bl true]] S = some (.bl true) := fun S => rfl
  refine ⟨_, Ro ns T Rr (m1 + Rr + 1) (some (.dat (.int (t : Int)))) s6'' (some (.dat (.int (m1 + Rr)))) s8, Sto ⟨T, Rr, rowsT (t + 1), 0, m1, m1 + Rr, m1 + Rr⟩, rfl, ?_, m1 + Rr + 1, _, _, _, _, _, _, _, rfl, rfl, by omega, by omega⟩
  simp only [Ro] at e1 e2
  simp [b_law_3, dn, k1, e1, a2, l2, ref_eq', a1, ann_eq, k2, e2, G.g1, G.g2, G.g3, G.g4, l0, g, fd, l3, compL, wipeE, o1, o2, o3, z0, z1', z2', ga, lk, a3, a4]
end BW
namespace BW
open PySem L2
def rowsE : List (Key × D) := [kA, kC, kDd]
theorem rowsE_ok : RowsOk rowsE := by
  refine ⟨by decide, fun kv h => ?_⟩
  simp only [rowsE, List.mem_cons, List.not_mem_nil, or_false] at h
  rcases h with rfl | rfl | rfl
  · exact ⟨"ann", "1111", .tup (([("lift" : Str), "set"]).map .str), rfl, by decide +kernel, by kernel_rfl, by decide +kernel⟩
  · exact ⟨"cy", "4440", .tup [], rfl, by decide +kernel, by kernel_rfl, by decide +kernel⟩
  · exact ⟨"cya", "4441", .tup [], rfl, by decide +kernel, by kernel_rfl, by decide +kernel⟩
theorem ne_str (S : Store) {x y : Str} {b : Bool} (hx : PyData.strOk x = true) (hy : PyData.strOk y = true) (h : (x == y) = !b) : gEq true (.str x) (.str y) S = some (.bl b) := by
  rw [eq_ok (a := .str x) (b := .str y) S true hx hy, deq_str, h]
  cases b <;> rfl
theorem take_ev (T Rr ms si sh la : Int) : m_Codes_take [.ref 0, .str "bo"] (Sto ⟨T, Rr, rowsT 2, ms, si, sh, la⟩) = .ok (.tup [.str "2222", .tup [.str "lift"]]) (Sto ⟨T, Rr, rowsE, ms, si, sh, la⟩) := by
  have hv : valD (rowsT 2) (.inr "bo") = some (.tup [.str "2222", .tup [.str "lift"]]) := (rt 2).vB
  have ks : (rowsT 2).map (fun kv => kD kv.1) = [.str "ann", .str "bo", .str "cy", .str "cya"] := rfl
  have v1 : valD (rowsT 2) (.inr "ann") = some (.tup [.str "1111", .tup [.str "lift", .str "set"]]) := (rt 2).vA
  have v3 : valD (rowsT 2) (.inr "cy") = some (.tup [.str "4440", .tup []]) := by kernel_rfl
  have v4 : valD (rowsT 2) (.inr "cya") = some (.tup [.str "4441", .tup []]) := by kernel_rfl
  have q1 : ∀ S, gEq true (.str "ann") (.str "bo") S = some (.bl true) := fun S => ne_str S (by decide +kernel) (by decide +kernel) (by decide +kernel)
  have q2 : ∀ S, gEq true (.str "bo") (.str "bo") S = some (.bl false) := fun S => ne_str S (by decide +kernel) (by decide +kernel) (by decide +kernel)
  have q3 : ∀ S, gEq true (.str "cy") (.str "bo") S = some (.bl true) := fun S => ne_str S (by decide +kernel) (by decide +kernel) (by decide +kernel)
  have q4 : ∀ S, gEq true (.str "cya") (.str "bo") S = some (.bl true) := fun S => ne_str S (by decide +kernel) (by decide +kernel) (by decide +kernel)
  have dp : ∀ S, gDictP [.lst [.tup [.str "ann", .tup [.str "1111", .tup [.str "lift", .str "set"]]], .tup [.str "cy", .tup [.str "4440", .tup []]], .tup [.str "cya", .tup [.str "4441", .tup []]]]] S = some (.dic rowsE) := fun S => by kernel_rfl
  have z0 : (0 : Nat) < LIM := by decide
  have z1 : (1 : Nat) < LIM := by decide
  have z2 : (2 : Nat) < LIM := by decide
  simp [m_Codes_take, g_Codes_take, hv, ks, compL, wipeE, q1, q2, q3, q4, v1, v3, v4, z0, z1, z2, l2, dp]
theorem lawOk : LawOk m_law := by
  intro ns hn
  have d0 := drawn_ev ns hn 0 5 (by decide) []
  have d1 := drawn_ev ns hn 1 50 (by decide) []
  have r0 := drawn_lt ns 0 (many := 5) (by decide)
  have r1 := drawn_lt ns 1 (many := 50) (by decide)
  have r2 := drawn_lt ns 2 (many := 20) (by decide)
  have hT : 0 < 1 + drawnF ns 0 5 ∧ 1 + drawnF ns 0 5 ≤ 5 := by omega
  have hR : 2 ≤ 2 + drawnF ns 1 50 := by omega
  have iv := init_ev (1 + drawnF ns 0 5) (2 + drawnF ns 1 50)
  generalize hTe : 1 + drawnF ns 0 5 = T at *
  generalize hRe : 2 + drawnF ns 1 50 = Rr at *
  obtain ⟨g1d, g1⟩ := give_ev ⟨T, Rr, [], 0, 0, 0, 0⟩ ⟨by simp, fun kv h => by cases h⟩ (x := "ann") (y := "1111") (l := [.str "lift", .str "set"]) (by decide +kernel) (by decide +kernel) (by decide +kernel) (by decide +kernel) (by decide +kernel) (by decide +kernel) rfl (by decide +kernel) rfl
  obtain ⟨g2d, g2⟩ := give_ev ⟨T, Rr, [kA], 0, 0, 0, 0⟩ ⟨by simp, fun kv h => by
    simp only [List.mem_cons, List.not_mem_nil, or_false] at h
    subst h
    exact ⟨"ann", "1111", .tup (([("lift" : Str), "set"]).map .str), rfl, by decide +kernel, by kernel_rfl, by decide +kernel⟩⟩ (x := "bo") (y := "2222") (l := [.str "lift"]) (by decide +kernel) (by decide +kernel) (by decide +kernel) (by decide +kernel) (by decide +kernel) (by decide +kernel) (by kernel_rfl) (by decide +kernel) (by kernel_rfl)
  have g1' : m_Codes_give [.ref 0, .str "ann", .str "1111", .tup [.str "lift", .str "set"]] (Sto ⟨T, Rr, [], 0, 0, 0, 0⟩) = .ok g1d (Sto ⟨T, Rr, [kA], 0, 0, 0, 0⟩) := g1
  have g2' : m_Codes_give [.ref 0, .str "bo", .str "2222", .tup [.str "lift"]] (Sto ⟨T, Rr, [kA], 0, 0, 0, 0⟩) = .ok g2d (Sto ⟨T, Rr, rowsT 0, 0, 0, 0, 0⟩) := g2
  have d2 := drawn_ev ns hn 2 20 (by decide) (Sto ⟨T, Rr, rowsT 0, 0, 0, 0, 0⟩)
  have k2 : kRng1 [.int 2] = some (rngD 0 2) := rng1_ok (j := 2) (by decide)
  obtain ⟨ρ', S', e, m, s5, s6, s7, s8, si, sh, la, rfl, rfl, q1, q2⟩ := forL_inv2 (t := tgName 5) (g := b_law_3) (TI ns T Rr) (rngD 0 2) 0 (Ro ns T Rr (drawnF ns 2 20) none none none none) (Sto ⟨T, Rr, rowsT 0, 0, 0, 0, 0⟩) ⟨_, _, _, _, _, _, _, _, rfl, rfl, by omega, by omega⟩ (fun j x ρ S hx h => by
    obtain ⟨rfl, hj⟩ := rng_at hx
    rw [Int.zero_add]
    rw [Nat.zero_add] at h ⊢
    exact turn_ok ns hn hT hR hj h)
  rw [rng_len, Nat.zero_add] at e
  have tk := take_ev T Rr 0 si sh la
  have w2 : whoD rowsE "2222" = .non := by kernel_rfl
  have a : m_law_told [.ref 0, .str "2222", .int m, .str "lift"] (Sto ⟨T, Rr, rowsE, 0, si, sh, la⟩) = .ok (.tup [.str "refused", .int 6]) _ := told_wrong ⟨T, Rr, rowsE, 0, si, sh, la⟩ rowsE_ok q1 (notlocked q2) (by decide +kernel) w2
  obtain ⟨ms', si', sh', la', wf⟩ : ∃ ms' si' sh' la', wrongF ⟨T, Rr, rowsE, 0, si, sh, la⟩ m = ⟨T, Rr, rowsE, ms', si', sh', la'⟩ := by
    unfold wrongF
    split
    · exact ⟨_, _, _, _, rfl⟩
    · exact ⟨_, _, _, _, rfl⟩
  rw [wf] at a
  have wh := who_ev ⟨T, Rr, rowsE, ms', si', sh', la'⟩ rowsE_ok "2222" (by decide +kernel)
  dsimp only at wh
  rw [w2] at wh
  have so : ∀ S, gSortedX [.dic rowsE] S = some (.lst [.str "ann", .str "cy", .str "cya"]) := fun S => by kernel_rfl
  have nv : m_Codes_names [.ref 0] (Sto ⟨T, Rr, rowsE, ms', si', sh', la'⟩) = .ok (.lst [.str "ann", .str "cy", .str "cya"]) (Sto ⟨T, Rr, rowsE, ms', si', sh', la'⟩) := by
    simp [m_Codes_names, g_Codes_names, so]
  have ge : ∀ S, gEq false (.lst [.str "ann", .str "cy", .str "cya"]) (.lst [.str "ann", .str "cy", .str "cya"]) S = some (.bl true) := fun S => by
    rw [eq_ok S false (by decide +kernel) (by decide +kernel), show deq (.lst [.str "ann", .str "cy", .str "cya"]) (.lst [.str "ann", .str "cy", .str "cya"]) = true by decide +kernel]
    rfl
  have te : ∀ S, gEq true (.tup [.str "2222", .tup [.str "lift"]]) (.tup [.str "2222", .tup [.str "lift"]]) S = some (.bl false) := fun S => by
    rw [eq_ok S true (by decide +kernel) (by decide +kernel), show deq (.tup [.str "2222", .tup [.str "lift"]]) (.tup [.str "2222", .tup [.str "lift"]]) = true by decide +kernel]
    rfl
  simp only [Ro] at e
  refine ⟨Sto ⟨T, Rr, rowsE, ms', si', sh', la'⟩, ?_⟩
  simp [m_law, g_law, d0, hTe, d1, hRe, iv, l2, l1, g1', g2', d2, k2, e, tk, te, a, ref_eq', nv, l3, ge, wh, gIs, isNonD]
end BW
namespace BW
open PySem PySem.Spec PyProof.Rows L2
theorem all_mk {l : PySem.W.OpenLaw} {w : World} {K : PySem.W.Frag} {h : Heap} {mg : Str → Option Value} {fa : Addr} (X : K.In h) (G : h.Ns mainGlobals mg) (hfa : mg "law" = some (.ref fa))
    {x0 : Addr}
    {x1 : Addr}
    {x2 : Addr}
    {x3 : Addr}
    {x4 : Addr}
    {x5 : Addr}
    {x6 : Addr}
    {x7 : Addr}
    {k_Codes : Addr}
    {f0 : Addr} {od0 an0 : Option Addr} {sl0 : Array (Option Value)} {oc0 kV0 dc0 pm0 cd0 ct0 : Value}
    {f1 : Addr} {od1 an1 : Option Addr} {sl1 : Array (Option Value)} {oc1 kV1 dc1 pm1 cd1 ct1 : Value}
    {f2 : Addr} {od2 an2 : Option Addr} {sl2 : Array (Option Value)} {oc2 kV2 dc2 pm2 cd2 ct2 : Value}
    {f3 : Addr} {od3 an3 : Option Addr} {sl3 : Array (Option Value)} {oc3 kV3 dc3 pm3 cd3 ct3 : Value}
    {f4 : Addr} {od4 an4 : Option Addr} {sl4 : Array (Option Value)} {oc4 kV4 dc4 pm4 cd4 ct4 : Value}
    {f5 : Addr} {od5 an5 : Option Addr} {sl5 : Array (Option Value)} {oc5 kV5 dc5 pm5 cd5 ct5 : Value}
    {f6 : Addr} {od6 an6 : Option Addr} {sl6 : Array (Option Value)} {oc6 kV6 dc6 pm6 cd6 ct6 : Value}
    {f7 : Addr} {od7 an7 : Option Addr} {sl7 : Array (Option Value)} {oc7 kV7 dc7 pm7 cd7 ct7 : Value}
    {f8 : Addr} {od8 an8 : Option Addr} {sl8 : Array (Option Value)} {oc8 kV8 dc8 pm8 cd8 ct8 : Value}
    {f9 : Addr} {od9 an9 : Option Addr} {sl9 : Array (Option Value)} {oc9 kV9 dc9 pm9 cd9 ct9 : Value}
    {f10 : Addr} {od10 an10 : Option Addr} {sl10 : Array (Option Value)} {oc10 kV10 dc10 pm10 cd10 ct10 : Value}
    {f11 : Addr} {od11 an11 : Option Addr} {sl11 : Array (Option Value)} {oc11 kV11 dc11 pm11 cd11 ct11 : Value}
    {f12 : Addr} {od12 an12 : Option Addr} {sl12 : Array (Option Value)} {oc12 kV12 dc12 pm12 cd12 ct12 : Value}
    {f13 : Addr} {od13 an13 : Option Addr} {sl13 : Array (Option Value)} {oc13 kV13 dc13 pm13 cd13 ct13 : Value}
    {f14 : Addr} {od14 an14 : Option Addr} {sl14 : Array (Option Value)} {oc14 kV14 dc14 pm14 cd14 ct14 : Value}
    {f15 : Addr} {od15 an15 : Option Addr} {sl15 : Array (Option Value)} {oc15 kV15 dc15 pm15 cd15 ct15 : Value}
    {ga2 : Addr} {god2 : Option Addr} {gn2 : Nat} {gsl2 : Array (Option Value)}
    {t0 t1 t2 t3 : Tok}
    (gx0 : PySem.W.nsIn K mainGlobals "BoltError" = some (some (.ref x0)))
    (xq0 : PySem.W.excIn K x0 veMro "ValueError.__new__" = true)
    (xk0 : PySem.W.keepIn K (.ref x0) = true)
    (xb0 : PySem.W.subIn K (.ref x0) (.type "BaseException") = some true)
    (xt0 : PySem.W.typeIn K (.ref x0) = some (.type "type"))
    (xc0 : PySem.W.isClsIn K x0 = true)
    (xg0 : PySem.W.findIn K (.ref x0) "__getattribute__" = some (some (.builtin "BaseException.__getattribute__")))
    (xh0 : PySem.W.findIn K (.ref x0) "__getattr__" = some none)
    (xd0 : PySem.W.hasDictIn K x0 = true)
    (xa0 : PySem.W.findIn K (.ref x0) "__class__" = some (some (.builtin "object.__class__")))
    (xm0 : PySem.W.mroIn K x0 (.type "object") = some true)
    (gx1 : PySem.W.nsIn K mainGlobals "NoTime" = some (some (.ref x1)))
    (xq1 : PySem.W.excIn K x1 veMro "ValueError.__new__" = true)
    (xk1 : PySem.W.keepIn K (.ref x1) = true)
    (xb1 : PySem.W.subIn K (.ref x1) (.type "BaseException") = some true)
    (xt1 : PySem.W.typeIn K (.ref x1) = some (.type "type"))
    (xc1 : PySem.W.isClsIn K x1 = true)
    (xg1 : PySem.W.findIn K (.ref x1) "__getattribute__" = some (some (.builtin "BaseException.__getattribute__")))
    (xh1 : PySem.W.findIn K (.ref x1) "__getattr__" = some none)
    (xd1 : PySem.W.hasDictIn K x1 = true)
    (xa1 : PySem.W.findIn K (.ref x1) "__class__" = some (some (.builtin "object.__class__")))
    (xm1 : PySem.W.mroIn K x1 (.type "object") = some true)
    (gx2 : PySem.W.nsIn K mainGlobals "NoName" = some (some (.ref x2)))
    (xq2 : PySem.W.excIn K x2 veMro "ValueError.__new__" = true)
    (xk2 : PySem.W.keepIn K (.ref x2) = true)
    (xb2 : PySem.W.subIn K (.ref x2) (.type "BaseException") = some true)
    (xt2 : PySem.W.typeIn K (.ref x2) = some (.type "type"))
    (xc2 : PySem.W.isClsIn K x2 = true)
    (xg2 : PySem.W.findIn K (.ref x2) "__getattribute__" = some (some (.builtin "BaseException.__getattribute__")))
    (xh2 : PySem.W.findIn K (.ref x2) "__getattr__" = some none)
    (xd2 : PySem.W.hasDictIn K x2 = true)
    (xa2 : PySem.W.findIn K (.ref x2) "__class__" = some (some (.builtin "object.__class__")))
    (xm2 : PySem.W.mroIn K x2 (.type "object") = some true)
    (gx3 : PySem.W.nsIn K mainGlobals "NoCode" = some (some (.ref x3)))
    (xq3 : PySem.W.excIn K x3 veMro "ValueError.__new__" = true)
    (xk3 : PySem.W.keepIn K (.ref x3) = true)
    (xb3 : PySem.W.subIn K (.ref x3) (.type "BaseException") = some true)
    (xt3 : PySem.W.typeIn K (.ref x3) = some (.type "type"))
    (xc3 : PySem.W.isClsIn K x3 = true)
    (xg3 : PySem.W.findIn K (.ref x3) "__getattribute__" = some (some (.builtin "BaseException.__getattribute__")))
    (xh3 : PySem.W.findIn K (.ref x3) "__getattr__" = some none)
    (xd3 : PySem.W.hasDictIn K x3 = true)
    (xa3 : PySem.W.findIn K (.ref x3) "__class__" = some (some (.builtin "object.__class__")))
    (xm3 : PySem.W.mroIn K x3 (.type "object") = some true)
    (gx4 : PySem.W.nsIn K mainGlobals "NoRight" = some (some (.ref x4)))
    (xq4 : PySem.W.excIn K x4 veMro "ValueError.__new__" = true)
    (xk4 : PySem.W.keepIn K (.ref x4) = true)
    (xb4 : PySem.W.subIn K (.ref x4) (.type "BaseException") = some true)
    (xt4 : PySem.W.typeIn K (.ref x4) = some (.type "type"))
    (xc4 : PySem.W.isClsIn K x4 = true)
    (xg4 : PySem.W.findIn K (.ref x4) "__getattribute__" = some (some (.builtin "BaseException.__getattribute__")))
    (xh4 : PySem.W.findIn K (.ref x4) "__getattr__" = some none)
    (xd4 : PySem.W.hasDictIn K x4 = true)
    (xa4 : PySem.W.findIn K (.ref x4) "__class__" = some (some (.builtin "object.__class__")))
    (xm4 : PySem.W.mroIn K x4 (.type "object") = some true)
    (gx5 : PySem.W.nsIn K mainGlobals "Taken" = some (some (.ref x5)))
    (xq5 : PySem.W.excIn K x5 veMro "ValueError.__new__" = true)
    (xk5 : PySem.W.keepIn K (.ref x5) = true)
    (xb5 : PySem.W.subIn K (.ref x5) (.type "BaseException") = some true)
    (xt5 : PySem.W.typeIn K (.ref x5) = some (.type "type"))
    (xc5 : PySem.W.isClsIn K x5 = true)
    (xg5 : PySem.W.findIn K (.ref x5) "__getattribute__" = some (some (.builtin "BaseException.__getattribute__")))
    (xh5 : PySem.W.findIn K (.ref x5) "__getattr__" = some none)
    (xd5 : PySem.W.hasDictIn K x5 = true)
    (xa5 : PySem.W.findIn K (.ref x5) "__class__" = some (some (.builtin "object.__class__")))
    (xm5 : PySem.W.mroIn K x5 (.type "object") = some true)
    (gx6 : PySem.W.nsIn K mainGlobals "Wrong" = some (some (.ref x6)))
    (xq6 : PySem.W.excIn K x6 veMro "ValueError.__new__" = true)
    (xk6 : PySem.W.keepIn K (.ref x6) = true)
    (xb6 : PySem.W.subIn K (.ref x6) (.type "BaseException") = some true)
    (xt6 : PySem.W.typeIn K (.ref x6) = some (.type "type"))
    (xc6 : PySem.W.isClsIn K x6 = true)
    (xg6 : PySem.W.findIn K (.ref x6) "__getattribute__" = some (some (.builtin "BaseException.__getattribute__")))
    (xh6 : PySem.W.findIn K (.ref x6) "__getattr__" = some none)
    (xd6 : PySem.W.hasDictIn K x6 = true)
    (xa6 : PySem.W.findIn K (.ref x6) "__class__" = some (some (.builtin "object.__class__")))
    (xm6 : PySem.W.mroIn K x6 (.type "object") = some true)
    (gx7 : PySem.W.nsIn K mainGlobals "Locked" = some (some (.ref x7)))
    (xq7 : PySem.W.excIn K x7 veMro "ValueError.__new__" = true)
    (xk7 : PySem.W.keepIn K (.ref x7) = true)
    (xb7 : PySem.W.subIn K (.ref x7) (.type "BaseException") = some true)
    (xt7 : PySem.W.typeIn K (.ref x7) = some (.type "type"))
    (xc7 : PySem.W.isClsIn K x7 = true)
    (xg7 : PySem.W.findIn K (.ref x7) "__getattribute__" = some (some (.builtin "BaseException.__getattribute__")))
    (xh7 : PySem.W.findIn K (.ref x7) "__getattr__" = some none)
    (xd7 : PySem.W.hasDictIn K x7 = true)
    (xa7 : PySem.W.findIn K (.ref x7) "__class__" = some (some (.builtin "object.__class__")))
    (xm7 : PySem.W.mroIn K x7 (.type "object") = some true)
    (xn : PySem.W.specialIn K (.builtin "object.__class__") "__get__" = some (some (.builtin "getset_descriptor.__get__")))
    (xtk : PySem.W.takesIn K (.builtin "object.__class__") = some true)
    (z_VE : PySem.W.nsIn K mainGlobals "ValueError" = some none)
    (sv1 : PySem.W.subIn K (.ref x1) (.type "ValueError") = some true)
    (s1_0 : PySem.W.subIn K (.ref x1) (.ref x0) = some true)
    (s1_1 : PySem.W.subIn K (.ref x1) (.ref x1) = some true)
    (s1_2 : PySem.W.subIn K (.ref x1) (.ref x2) = some false)
    (s1_3 : PySem.W.subIn K (.ref x1) (.ref x3) = some false)
    (s1_4 : PySem.W.subIn K (.ref x1) (.ref x4) = some false)
    (s1_5 : PySem.W.subIn K (.ref x1) (.ref x5) = some false)
    (s1_6 : PySem.W.subIn K (.ref x1) (.ref x6) = some false)
    (s1_7 : PySem.W.subIn K (.ref x1) (.ref x7) = some false)
    (sv2 : PySem.W.subIn K (.ref x2) (.type "ValueError") = some true)
    (s2_0 : PySem.W.subIn K (.ref x2) (.ref x0) = some true)
    (s2_1 : PySem.W.subIn K (.ref x2) (.ref x1) = some false)
    (s2_2 : PySem.W.subIn K (.ref x2) (.ref x2) = some true)
    (s2_3 : PySem.W.subIn K (.ref x2) (.ref x3) = some false)
    (s2_4 : PySem.W.subIn K (.ref x2) (.ref x4) = some false)
    (s2_5 : PySem.W.subIn K (.ref x2) (.ref x5) = some false)
    (s2_6 : PySem.W.subIn K (.ref x2) (.ref x6) = some false)
    (s2_7 : PySem.W.subIn K (.ref x2) (.ref x7) = some false)
    (sv3 : PySem.W.subIn K (.ref x3) (.type "ValueError") = some true)
    (s3_0 : PySem.W.subIn K (.ref x3) (.ref x0) = some true)
    (s3_1 : PySem.W.subIn K (.ref x3) (.ref x1) = some false)
    (s3_2 : PySem.W.subIn K (.ref x3) (.ref x2) = some false)
    (s3_3 : PySem.W.subIn K (.ref x3) (.ref x3) = some true)
    (s3_4 : PySem.W.subIn K (.ref x3) (.ref x4) = some false)
    (s3_5 : PySem.W.subIn K (.ref x3) (.ref x5) = some false)
    (s3_6 : PySem.W.subIn K (.ref x3) (.ref x6) = some false)
    (s3_7 : PySem.W.subIn K (.ref x3) (.ref x7) = some false)
    (sv4 : PySem.W.subIn K (.ref x4) (.type "ValueError") = some true)
    (s4_0 : PySem.W.subIn K (.ref x4) (.ref x0) = some true)
    (s4_1 : PySem.W.subIn K (.ref x4) (.ref x1) = some false)
    (s4_2 : PySem.W.subIn K (.ref x4) (.ref x2) = some false)
    (s4_3 : PySem.W.subIn K (.ref x4) (.ref x3) = some false)
    (s4_4 : PySem.W.subIn K (.ref x4) (.ref x4) = some true)
    (s4_5 : PySem.W.subIn K (.ref x4) (.ref x5) = some false)
    (s4_6 : PySem.W.subIn K (.ref x4) (.ref x6) = some false)
    (s4_7 : PySem.W.subIn K (.ref x4) (.ref x7) = some false)
    (sv5 : PySem.W.subIn K (.ref x5) (.type "ValueError") = some true)
    (s5_0 : PySem.W.subIn K (.ref x5) (.ref x0) = some true)
    (s5_1 : PySem.W.subIn K (.ref x5) (.ref x1) = some false)
    (s5_2 : PySem.W.subIn K (.ref x5) (.ref x2) = some false)
    (s5_3 : PySem.W.subIn K (.ref x5) (.ref x3) = some false)
    (s5_4 : PySem.W.subIn K (.ref x5) (.ref x4) = some false)
    (s5_5 : PySem.W.subIn K (.ref x5) (.ref x5) = some true)
    (s5_6 : PySem.W.subIn K (.ref x5) (.ref x6) = some false)
    (s5_7 : PySem.W.subIn K (.ref x5) (.ref x7) = some false)
    (sv6 : PySem.W.subIn K (.ref x6) (.type "ValueError") = some true)
    (s6_0 : PySem.W.subIn K (.ref x6) (.ref x0) = some true)
    (s6_1 : PySem.W.subIn K (.ref x6) (.ref x1) = some false)
    (s6_2 : PySem.W.subIn K (.ref x6) (.ref x2) = some false)
    (s6_3 : PySem.W.subIn K (.ref x6) (.ref x3) = some false)
    (s6_4 : PySem.W.subIn K (.ref x6) (.ref x4) = some false)
    (s6_5 : PySem.W.subIn K (.ref x6) (.ref x5) = some false)
    (s6_6 : PySem.W.subIn K (.ref x6) (.ref x6) = some true)
    (s6_7 : PySem.W.subIn K (.ref x6) (.ref x7) = some false)
    (sv7 : PySem.W.subIn K (.ref x7) (.type "ValueError") = some true)
    (s7_0 : PySem.W.subIn K (.ref x7) (.ref x0) = some true)
    (s7_1 : PySem.W.subIn K (.ref x7) (.ref x1) = some false)
    (s7_2 : PySem.W.subIn K (.ref x7) (.ref x2) = some false)
    (s7_3 : PySem.W.subIn K (.ref x7) (.ref x3) = some false)
    (s7_4 : PySem.W.subIn K (.ref x7) (.ref x4) = some false)
    (s7_5 : PySem.W.subIn K (.ref x7) (.ref x5) = some false)
    (s7_6 : PySem.W.subIn K (.ref x7) (.ref x6) = some false)
    (s7_7 : PySem.W.subIn K (.ref x7) (.ref x7) = some true)
    (ak_Codes : PySem.W.nsIn K mainGlobals "Codes" = some (some (.ref k_Codes)))
    (pg_Codes : PySem.W.plainGet K k_Codes Str.empty = true)
    (hd_Codes : PySem.W.hasDictIn K k_Codes = true)
    (po_Codes : PySem.W.plainOver K k_Codes = true)
    (sa_Codes : PySem.W.findIn K (.ref k_Codes) "__setattr__" = some (some (.builtin "object.__setattr__")))
    (mk_Codes : PySem.W.makesIn K k_Codes = true)
    (kc_Codes : PySem.W.keepIn K (.ref k_Codes) = true)
    (n_Codes_tries : PySem.W.findIn K (.ref k_Codes) "tries" = some none)
    (n_Codes_rest : PySem.W.findIn K (.ref k_Codes) "rest" = some none)
    (n_Codes_rows : PySem.W.findIn K (.ref k_Codes) "rows" = some none)
    (n_Codes_misses : PySem.W.findIn K (.ref k_Codes) "misses" = some none)
    (n_Codes_since : PySem.W.findIn K (.ref k_Codes) "since" = some none)
    (n_Codes_shut : PySem.W.findIn K (.ref k_Codes) "shut" = some none)
    (n_Codes_last : PySem.W.findIn K (.ref k_Codes) "last" = some none)
    (a0 : PySem.W.nsIn K mainGlobals "_law_cell" = some (some (.ref f0)))
    (l0 : K.lookup f0 = some ⟨oc0, od0, .func (PySem.W.fnOf "_law_cell" "_law_cell" (defArgs st_law_cell) (defBody st_law_cell) (defScope st_law_cell) .none kV0 dc0 pm0 an0 cd0 ct0), sl0⟩)
    (c0 : PySem.W.codeIn K cd0 "_law_cell" = true)
    (k0 : PySem.W.keepIn K (.ref f0) = true)
    (a1 : PySem.W.nsIn K mainGlobals "_law_drawn" = some (some (.ref f1)))
    (l1 : K.lookup f1 = some ⟨oc1, od1, .func (PySem.W.fnOf "_law_drawn" "_law_drawn" (defArgs st_law_drawn) (defBody st_law_drawn) (defScope st_law_drawn) .none kV1 dc1 pm1 an1 cd1 ct1), sl1⟩)
    (c1 : PySem.W.codeIn K cd1 "_law_drawn" = true)
    (k1 : PySem.W.keepIn K (.ref f1) = true)
    (a2 : PySem.W.findIn K (.ref k_Codes) "__init__" = some (some (.ref f2)))
    (i2 : PySem.W.isFn K (.ref f2) = true)
    (l2 : K.lookup f2 = some ⟨oc2, od2, .func (PySem.W.fnOf "__init__" "Codes.__init__" (defArgs st_Codes_init) (defBody st_Codes_init) (defScope st_Codes_init) .none kV2 dc2 pm2 an2 cd2 ct2), sl2⟩)
    (c2 : PySem.W.codeIn K cd2 "Codes.__init__" = true)
    (k2 : PySem.W.keepIn K (.ref f2) = true)
    (a3 : PySem.W.nsIn K mainGlobals "is_name" = some (some (.ref f3)))
    (l3 : K.lookup f3 = some ⟨oc3, od3, .func (PySem.W.fnOf "is_name" "is_name" (defArgs st_is_name) (defBody st_is_name) (defScope st_is_name) .none kV3 dc3 pm3 an3 cd3 ct3), sl3⟩)
    (c3 : PySem.W.codeIn K cd3 "is_name" = true)
    (k3 : PySem.W.keepIn K (.ref f3) = true)
    (a4 : PySem.W.nsIn K mainGlobals "is_code" = some (some (.ref f4)))
    (l4 : K.lookup f4 = some ⟨oc4, od4, .func (PySem.W.fnOf "is_code" "is_code" (defArgs st_is_code) (defBody st_is_code) (defScope st_is_code) .none kV4 dc4 pm4 an4 cd4 ct4), sl4⟩)
    (c4 : PySem.W.codeIn K cd4 "is_code" = true)
    (k4 : PySem.W.keepIn K (.ref f4) = true)
    (a5 : PySem.W.nsIn K mainGlobals "are_rights" = some (some (.ref f5)))
    (l5 : K.lookup f5 = some ⟨oc5, od5, .func (PySem.W.fnOf "are_rights" "are_rights" (defArgs st_are_rights) (defBody st_are_rights) (defScope st_are_rights) .none kV5 dc5 pm5 an5 cd5 ct5), sl5⟩)
    (c5 : PySem.W.codeIn K cd5 "are_rights" = true)
    (k5 : PySem.W.keepIn K (.ref f5) = true)
    (a6 : PySem.W.findIn K (.ref k_Codes) "who" = some (some (.ref f6)))
    (i6 : PySem.W.isFn K (.ref f6) = true)
    (l6 : K.lookup f6 = some ⟨oc6, od6, .func (PySem.W.fnOf "who" "Codes.who" (defArgs st_Codes_who) (defBody st_Codes_who) (defScope st_Codes_who) .none kV6 dc6 pm6 an6 cd6 ct6), sl6⟩)
    (c6 : PySem.W.codeIn K cd6 "Codes.who" = true)
    (k6 : PySem.W.keepIn K (.ref f6) = true)
    (a7 : PySem.W.findIn K (.ref k_Codes) "give" = some (some (.ref f7)))
    (i7 : PySem.W.isFn K (.ref f7) = true)
    (l7 : K.lookup f7 = some ⟨oc7, od7, .func (PySem.W.fnOf "give" "Codes.give" (defArgs st_Codes_give) (defBody st_Codes_give) (defScope st_Codes_give) .none kV7 dc7 pm7 an7 cd7 ct7), sl7⟩)
    (c7 : PySem.W.codeIn K cd7 "Codes.give" = true)
    (k7 : PySem.W.keepIn K (.ref f7) = true)
    (a8 : PySem.W.findIn K (.ref k_Codes) "locked_at" = some (some (.ref f8)))
    (i8 : PySem.W.isFn K (.ref f8) = true)
    (l8 : K.lookup f8 = some ⟨oc8, od8, .func (PySem.W.fnOf "locked_at" "Codes.locked_at" (defArgs st_Codes_locked_at) (defBody st_Codes_locked_at) (defScope st_Codes_locked_at) .none kV8 dc8 pm8 an8 cd8 ct8), sl8⟩)
    (c8 : PySem.W.codeIn K cd8 "Codes.locked_at" = true)
    (k8 : PySem.W.keepIn K (.ref f8) = true)
    (a9 : PySem.W.findIn K (.ref k_Codes) "ask" = some (some (.ref f9)))
    (i9 : PySem.W.isFn K (.ref f9) = true)
    (l9 : K.lookup f9 = some ⟨oc9, od9, .func (PySem.W.fnOf "ask" "Codes.ask" (defArgs st_Codes_ask) (defBody st_Codes_ask) (defScope st_Codes_ask) .none kV9 dc9 pm9 an9 cd9 ct9), sl9⟩)
    (c9 : PySem.W.codeIn K cd9 "Codes.ask" = true)
    (k9 : PySem.W.keepIn K (.ref f9) = true)
    (a10 : PySem.W.nsIn K mainGlobals "_law_word" = some (some (.ref f10)))
    (l10 : K.lookup f10 = some ⟨oc10, od10, .func (PySem.W.fnOf "_law_word" "_law_word" (defArgs st_law_word) (defBody st_law_word) (defScope st_law_word) .none kV10 dc10 pm10 an10 cd10 ct10), sl10⟩)
    (c10 : PySem.W.codeIn K cd10 "_law_word" = true)
    (k10 : PySem.W.keepIn K (.ref f10) = true)
    (a11 : PySem.W.nsIn K mainGlobals "_law_told" = some (some (.ref f11)))
    (l11 : K.lookup f11 = some ⟨oc11, od11, .func (PySem.W.fnOf "_law_told" "_law_told" (defArgs st_law_told) (defBody st_law_told) (defScope st_law_told) .none kV11 dc11 pm11 an11 cd11 ct11), sl11⟩)
    (c11 : PySem.W.codeIn K cd11 "_law_told" = true)
    (k11 : PySem.W.keepIn K (.ref f11) = true)
    (a12 : PySem.W.nsIn K mainGlobals "_law_is_out" = some (some (.ref f12)))
    (l12 : K.lookup f12 = some ⟨oc12, od12, .func (PySem.W.fnOf "_law_is_out" "_law_is_out" (defArgs st_law_is_out) (defBody st_law_is_out) (defScope st_law_is_out) .none kV12 dc12 pm12 an12 cd12 ct12), sl12⟩)
    (c12 : PySem.W.codeIn K cd12 "_law_is_out" = true)
    (k12 : PySem.W.keepIn K (.ref f12) = true)
    (a13 : PySem.W.findIn K (.ref k_Codes) "take" = some (some (.ref f13)))
    (i13 : PySem.W.isFn K (.ref f13) = true)
    (l13 : K.lookup f13 = some ⟨oc13, od13, .func (PySem.W.fnOf "take" "Codes.take" (defArgs st_Codes_take) (defBody st_Codes_take) (defScope st_Codes_take) .none kV13 dc13 pm13 an13 cd13 ct13), sl13⟩)
    (c13 : PySem.W.codeIn K cd13 "Codes.take" = true)
    (k13 : PySem.W.keepIn K (.ref f13) = true)
    (a14 : PySem.W.findIn K (.ref k_Codes) "names" = some (some (.ref f14)))
    (i14 : PySem.W.isFn K (.ref f14) = true)
    (l14 : K.lookup f14 = some ⟨oc14, od14, .func (PySem.W.fnOf "names" "Codes.names" (defArgs st_Codes_names) (defBody st_Codes_names) (defScope st_Codes_names) .none kV14 dc14 pm14 an14 cd14 ct14), sl14⟩)
    (c14 : PySem.W.codeIn K cd14 "Codes.names" = true)
    (k14 : PySem.W.keepIn K (.ref f14) = true)
    (a15 : PySem.W.nsIn K mainGlobals "law" = some (some (.ref f15)))
    (l15 : K.lookup f15 = some ⟨oc15, od15, .func (PySem.W.fnOf "law" "law" (defArgs st_law) (defBody st_law) (defScope st_law) .none kV15 dc15 pm15 an15 cd15 ct15), sl15⟩)
    (c15 : PySem.W.codeIn K cd15 "law" = true)
    (k15 : PySem.W.keepIn K (.ref f15) = true)
    (gv0 : PySem.W.nsIn K mainGlobals "LETTERS" = some (some (.str "abcdefghijklmnopqrstuvwxyz" t0)))
    (gv1 : PySem.W.nsIn K mainGlobals "FIGURES" = some (some (.str "0123456789" t1)))
    (gv2 : PySem.W.nsIn K mainGlobals "RIGHTS" = some (some (.ref ga2)))
    (hv2 : K.lookup ga2 = some ⟨.type "tuple", god2, .seq #[(.str "lift" t2), (.str "set" t3)] gn2, gsl2⟩)
    (z_len : PySem.W.nsIn K mainGlobals "len" = some none)
    (z_isinstance : PySem.W.nsIn K mainGlobals "isinstance" = some none)
    (z_int : PySem.W.nsIn K mainGlobals "int" = some none)
    (z_bool : PySem.W.nsIn K mainGlobals "bool" = some none)
    (z_str : PySem.W.nsIn K mainGlobals "str" = some none)
    (z_tuple : PySem.W.nsIn K mainGlobals "tuple" = some none)
    (z_list : PySem.W.nsIn K mainGlobals "list" = some none)
    (z_set : PySem.W.nsIn K mainGlobals "set" = some none)
    (z_dict : PySem.W.nsIn K mainGlobals "dict" = some none)
    (z_all : PySem.W.nsIn K mainGlobals "all" = some none)
    (z_zip : PySem.W.nsIn K mainGlobals "zip" = some none)
    (z_enumerate : PySem.W.nsIn K mainGlobals "enumerate" = some none)
    (z_range : PySem.W.nsIn K mainGlobals "range" = some none)
    (z_sorted : PySem.W.nsIn K mainGlobals "sorted" = some none)
    (z_min : PySem.W.nsIn K mainGlobals "min" = some none)
    (z_max : PySem.W.nsIn K mainGlobals "max" = some none) :
    ∃ fd : FuncData, (∀ (s : Shared) (v : Value), BindsTo s fd ⟨[v], []⟩ [("script", v)]) ∧ ∀ base : Heap, K.In base → base.Ns mainGlobals mg → FnOk l.prog w K mg base (L2.CX l.prog w) 5 fa fd ["script"] (spM K (clOf K) 1 m_law) := by
  have e := hfa.symm.trans (PySem.W.mg_of X G a15)
  cases e
  have B : Bt mg := ⟨PySem.W.mg_none_of X G z_len, PySem.W.mg_none_of X G z_isinstance, PySem.W.mg_none_of X G z_int, PySem.W.mg_none_of X G z_bool, PySem.W.mg_none_of X G z_str, PySem.W.mg_none_of X G z_tuple, PySem.W.mg_none_of X G z_list, PySem.W.mg_none_of X G z_set, PySem.W.mg_none_of X G z_dict, PySem.W.mg_none_of X G z_all, PySem.W.mg_none_of X G z_zip, PySem.W.mg_none_of X G z_enumerate, PySem.W.mg_none_of X G z_range, PySem.W.mg_none_of X G z_sorted, PySem.W.mg_none_of X G z_min, PySem.W.mg_none_of X G z_max⟩
  have ex0 : clOf K "BoltError" = x0 := clOf_eq gx0
  have ex1 : clOf K "NoTime" = x1 := clOf_eq gx1
  have ex2 : clOf K "NoName" = x2 := clOf_eq gx2
  have ex3 : clOf K "NoCode" = x3 := clOf_eq gx3
  have ex4 : clOf K "NoRight" = x4 := clOf_eq gx4
  have ex5 : clOf K "Taken" = x5 := clOf_eq gx5
  have ex6 : clOf K "Wrong" = x6 := clOf_eq gx6
  have ex7 : clOf K "Locked" = x7 := clOf_eq gx7
  have ek_Codes : clOf K "Codes" = k_Codes := clOf_eq ak_Codes
  have X0 : XcOk K mg (clOf K) "BoltError" := ⟨by rw [ex0]; exact PySem.W.mg_of X G gx0, by rw [ex0]; exact xq0, by rw [ex0]; exact xk0, by rw [ex0]; exact xb0, by rw [ex0]; exact xt0⟩
  have X1 : XcOk K mg (clOf K) "NoTime" := ⟨by rw [ex1]; exact PySem.W.mg_of X G gx1, by rw [ex1]; exact xq1, by rw [ex1]; exact xk1, by rw [ex1]; exact xb1, by rw [ex1]; exact xt1⟩
  have X2 : XcOk K mg (clOf K) "NoName" := ⟨by rw [ex2]; exact PySem.W.mg_of X G gx2, by rw [ex2]; exact xq2, by rw [ex2]; exact xk2, by rw [ex2]; exact xb2, by rw [ex2]; exact xt2⟩
  have X3 : XcOk K mg (clOf K) "NoCode" := ⟨by rw [ex3]; exact PySem.W.mg_of X G gx3, by rw [ex3]; exact xq3, by rw [ex3]; exact xk3, by rw [ex3]; exact xb3, by rw [ex3]; exact xt3⟩
  have X4 : XcOk K mg (clOf K) "NoRight" := ⟨by rw [ex4]; exact PySem.W.mg_of X G gx4, by rw [ex4]; exact xq4, by rw [ex4]; exact xk4, by rw [ex4]; exact xb4, by rw [ex4]; exact xt4⟩
  have X5 : XcOk K mg (clOf K) "Taken" := ⟨by rw [ex5]; exact PySem.W.mg_of X G gx5, by rw [ex5]; exact xq5, by rw [ex5]; exact xk5, by rw [ex5]; exact xb5, by rw [ex5]; exact xt5⟩
  have X6 : XcOk K mg (clOf K) "Wrong" := ⟨by rw [ex6]; exact PySem.W.mg_of X G gx6, by rw [ex6]; exact xq6, by rw [ex6]; exact xk6, by rw [ex6]; exact xb6, by rw [ex6]; exact xt6⟩
  have X7 : XcOk K mg (clOf K) "Locked" := ⟨by rw [ex7]; exact PySem.W.mg_of X G gx7, by rw [ex7]; exact xq7, by rw [ex7]; exact xk7, by rw [ex7]; exact xb7, by rw [ex7]; exact xt7⟩
  have EC : ∀ c ∈ XS, ExcC K (clOf K c) := by
    intro c hc
    simp only [XS, List.mem_cons, List.not_mem_nil, or_false] at hc; rcases hc with rfl | rfl | rfl | rfl | rfl | rfl | rfl
    · rw [ex1]; exact ⟨xg1, xh1, xb1, xd1, xa1, xn, xtk, xm1⟩
    · rw [ex2]; exact ⟨xg2, xh2, xb2, xd2, xa2, xn, xtk, xm2⟩
    · rw [ex3]; exact ⟨xg3, xh3, xb3, xd3, xa3, xn, xtk, xm3⟩
    · rw [ex4]; exact ⟨xg4, xh4, xb4, xd4, xa4, xn, xtk, xm4⟩
    · rw [ex5]; exact ⟨xg5, xh5, xb5, xd5, xa5, xn, xtk, xm5⟩
    · rw [ex6]; exact ⟨xg6, xh6, xb6, xd6, xa6, xn, xtk, xm6⟩
    · rw [ex7]; exact ⟨xg7, xh7, xb7, xd7, xa7, xn, xtk, xm7⟩
  have ISA : ∀ c ∈ XS, ∀ d ∈ XS, PySem.W.kitOne K (.ref (clOf K c)) (.ref (clOf K d)) = some (isaX c d) := by
    intro c hc d hd
    simp only [XS, List.mem_cons, List.not_mem_nil, or_false] at hc; rcases hc with rfl | rfl | rfl | rfl | rfl | rfl | rfl
    · simp only [XS, List.mem_cons, List.not_mem_nil, or_false] at hd; rcases hd with rfl | rfl | rfl | rfl | rfl | rfl | rfl
      · rw [ex1]; exact (kit_one xc1 xt1 s1_1 (fun _ => rfl)).trans (by decide +kernel)
      · rw [ex1, ex2]; exact (kit_one xc2 xt2 s1_2 (fun e => by rw [e] at s1_2; exact absurd (s2_2.symm.trans s1_2) (by decide))).trans (by decide +kernel)
      · rw [ex1, ex3]; exact (kit_one xc3 xt3 s1_3 (fun e => by rw [e] at s1_3; exact absurd (s3_3.symm.trans s1_3) (by decide))).trans (by decide +kernel)
      · rw [ex1, ex4]; exact (kit_one xc4 xt4 s1_4 (fun e => by rw [e] at s1_4; exact absurd (s4_4.symm.trans s1_4) (by decide))).trans (by decide +kernel)
      · rw [ex1, ex5]; exact (kit_one xc5 xt5 s1_5 (fun e => by rw [e] at s1_5; exact absurd (s5_5.symm.trans s1_5) (by decide))).trans (by decide +kernel)
      · rw [ex1, ex6]; exact (kit_one xc6 xt6 s1_6 (fun e => by rw [e] at s1_6; exact absurd (s6_6.symm.trans s1_6) (by decide))).trans (by decide +kernel)
      · rw [ex1, ex7]; exact (kit_one xc7 xt7 s1_7 (fun e => by rw [e] at s1_7; exact absurd (s7_7.symm.trans s1_7) (by decide))).trans (by decide +kernel)
    · simp only [XS, List.mem_cons, List.not_mem_nil, or_false] at hd; rcases hd with rfl | rfl | rfl | rfl | rfl | rfl | rfl
      · rw [ex2, ex1]; exact (kit_one xc1 xt1 s2_1 (fun e => by rw [e] at s2_1; exact absurd (s1_1.symm.trans s2_1) (by decide))).trans (by decide +kernel)
      · rw [ex2]; exact (kit_one xc2 xt2 s2_2 (fun _ => rfl)).trans (by decide +kernel)
      · rw [ex2, ex3]; exact (kit_one xc3 xt3 s2_3 (fun e => by rw [e] at s2_3; exact absurd (s3_3.symm.trans s2_3) (by decide))).trans (by decide +kernel)
      · rw [ex2, ex4]; exact (kit_one xc4 xt4 s2_4 (fun e => by rw [e] at s2_4; exact absurd (s4_4.symm.trans s2_4) (by decide))).trans (by decide +kernel)
      · rw [ex2, ex5]; exact (kit_one xc5 xt5 s2_5 (fun e => by rw [e] at s2_5; exact absurd (s5_5.symm.trans s2_5) (by decide))).trans (by decide +kernel)
      · rw [ex2, ex6]; exact (kit_one xc6 xt6 s2_6 (fun e => by rw [e] at s2_6; exact absurd (s6_6.symm.trans s2_6) (by decide))).trans (by decide +kernel)
      · rw [ex2, ex7]; exact (kit_one xc7 xt7 s2_7 (fun e => by rw [e] at s2_7; exact absurd (s7_7.symm.trans s2_7) (by decide))).trans (by decide +kernel)
    · simp only [XS, List.mem_cons, List.not_mem_nil, or_false] at hd; rcases hd with rfl | rfl | rfl | rfl | rfl | rfl | rfl
      · rw [ex3, ex1]; exact (kit_one xc1 xt1 s3_1 (fun e => by rw [e] at s3_1; exact absurd (s1_1.symm.trans s3_1) (by decide))).trans (by decide +kernel)
      · rw [ex3, ex2]; exact (kit_one xc2 xt2 s3_2 (fun e => by rw [e] at s3_2; exact absurd (s2_2.symm.trans s3_2) (by decide))).trans (by decide +kernel)
      · rw [ex3]; exact (kit_one xc3 xt3 s3_3 (fun _ => rfl)).trans (by decide +kernel)
      · rw [ex3, ex4]; exact (kit_one xc4 xt4 s3_4 (fun e => by rw [e] at s3_4; exact absurd (s4_4.symm.trans s3_4) (by decide))).trans (by decide +kernel)
      · rw [ex3, ex5]; exact (kit_one xc5 xt5 s3_5 (fun e => by rw [e] at s3_5; exact absurd (s5_5.symm.trans s3_5) (by decide))).trans (by decide +kernel)
      · rw [ex3, ex6]; exact (kit_one xc6 xt6 s3_6 (fun e => by rw [e] at s3_6; exact absurd (s6_6.symm.trans s3_6) (by decide))).trans (by decide +kernel)
      · rw [ex3, ex7]; exact (kit_one xc7 xt7 s3_7 (fun e => by rw [e] at s3_7; exact absurd (s7_7.symm.trans s3_7) (by decide))).trans (by decide +kernel)
    · simp only [XS, List.mem_cons, List.not_mem_nil, or_false] at hd; rcases hd with rfl | rfl | rfl | rfl | rfl | rfl | rfl
      · rw [ex4, ex1]; exact (kit_one xc1 xt1 s4_1 (fun e => by rw [e] at s4_1; exact absurd (s1_1.symm.trans s4_1) (by decide))).trans (by decide +kernel)
      · rw [ex4, ex2]; exact (kit_one xc2 xt2 s4_2 (fun e => by rw [e] at s4_2; exact absurd (s2_2.symm.trans s4_2) (by decide))).trans (by decide +kernel)
      · rw [ex4, ex3]; exact (kit_one xc3 xt3 s4_3 (fun e => by rw [e] at s4_3; exact absurd (s3_3.symm.trans s4_3) (by decide))).trans (by decide +kernel)
      · rw [ex4]; exact (kit_one xc4 xt4 s4_4 (fun _ => rfl)).trans (by decide +kernel)
      · rw [ex4, ex5]; exact (kit_one xc5 xt5 s4_5 (fun e => by rw [e] at s4_5; exact absurd (s5_5.symm.trans s4_5) (by decide))).trans (by decide +kernel)
      · rw [ex4, ex6]; exact (kit_one xc6 xt6 s4_6 (fun e => by rw [e] at s4_6; exact absurd (s6_6.symm.trans s4_6) (by decide))).trans (by decide +kernel)
      · rw [ex4, ex7]; exact (kit_one xc7 xt7 s4_7 (fun e => by rw [e] at s4_7; exact absurd (s7_7.symm.trans s4_7) (by decide))).trans (by decide +kernel)
    · simp only [XS, List.mem_cons, List.not_mem_nil, or_false] at hd; rcases hd with rfl | rfl | rfl | rfl | rfl | rfl | rfl
      · rw [ex5, ex1]; exact (kit_one xc1 xt1 s5_1 (fun e => by rw [e] at s5_1; exact absurd (s1_1.symm.trans s5_1) (by decide))).trans (by decide +kernel)
      · rw [ex5, ex2]; exact (kit_one xc2 xt2 s5_2 (fun e => by rw [e] at s5_2; exact absurd (s2_2.symm.trans s5_2) (by decide))).trans (by decide +kernel)
      · rw [ex5, ex3]; exact (kit_one xc3 xt3 s5_3 (fun e => by rw [e] at s5_3; exact absurd (s3_3.symm.trans s5_3) (by decide))).trans (by decide +kernel)
      · rw [ex5, ex4]; exact (kit_one xc4 xt4 s5_4 (fun e => by rw [e] at s5_4; exact absurd (s4_4.symm.trans s5_4) (by decide))).trans (by decide +kernel)
      · rw [ex5]; exact (kit_one xc5 xt5 s5_5 (fun _ => rfl)).trans (by decide +kernel)
      · rw [ex5, ex6]; exact (kit_one xc6 xt6 s5_6 (fun e => by rw [e] at s5_6; exact absurd (s6_6.symm.trans s5_6) (by decide))).trans (by decide +kernel)
      · rw [ex5, ex7]; exact (kit_one xc7 xt7 s5_7 (fun e => by rw [e] at s5_7; exact absurd (s7_7.symm.trans s5_7) (by decide))).trans (by decide +kernel)
    · simp only [XS, List.mem_cons, List.not_mem_nil, or_false] at hd; rcases hd with rfl | rfl | rfl | rfl | rfl | rfl | rfl
      · rw [ex6, ex1]; exact (kit_one xc1 xt1 s6_1 (fun e => by rw [e] at s6_1; exact absurd (s1_1.symm.trans s6_1) (by decide))).trans (by decide +kernel)
      · rw [ex6, ex2]; exact (kit_one xc2 xt2 s6_2 (fun e => by rw [e] at s6_2; exact absurd (s2_2.symm.trans s6_2) (by decide))).trans (by decide +kernel)
      · rw [ex6, ex3]; exact (kit_one xc3 xt3 s6_3 (fun e => by rw [e] at s6_3; exact absurd (s3_3.symm.trans s6_3) (by decide))).trans (by decide +kernel)
      · rw [ex6, ex4]; exact (kit_one xc4 xt4 s6_4 (fun e => by rw [e] at s6_4; exact absurd (s4_4.symm.trans s6_4) (by decide))).trans (by decide +kernel)
      · rw [ex6, ex5]; exact (kit_one xc5 xt5 s6_5 (fun e => by rw [e] at s6_5; exact absurd (s5_5.symm.trans s6_5) (by decide))).trans (by decide +kernel)
      · rw [ex6]; exact (kit_one xc6 xt6 s6_6 (fun _ => rfl)).trans (by decide +kernel)
      · rw [ex6, ex7]; exact (kit_one xc7 xt7 s6_7 (fun e => by rw [e] at s6_7; exact absurd (s7_7.symm.trans s6_7) (by decide))).trans (by decide +kernel)
    · simp only [XS, List.mem_cons, List.not_mem_nil, or_false] at hd; rcases hd with rfl | rfl | rfl | rfl | rfl | rfl | rfl
      · rw [ex7, ex1]; exact (kit_one xc1 xt1 s7_1 (fun e => by rw [e] at s7_1; exact absurd (s1_1.symm.trans s7_1) (by decide))).trans (by decide +kernel)
      · rw [ex7, ex2]; exact (kit_one xc2 xt2 s7_2 (fun e => by rw [e] at s7_2; exact absurd (s2_2.symm.trans s7_2) (by decide))).trans (by decide +kernel)
      · rw [ex7, ex3]; exact (kit_one xc3 xt3 s7_3 (fun e => by rw [e] at s7_3; exact absurd (s3_3.symm.trans s7_3) (by decide))).trans (by decide +kernel)
      · rw [ex7, ex4]; exact (kit_one xc4 xt4 s7_4 (fun e => by rw [e] at s7_4; exact absurd (s4_4.symm.trans s7_4) (by decide))).trans (by decide +kernel)
      · rw [ex7, ex5]; exact (kit_one xc5 xt5 s7_5 (fun e => by rw [e] at s7_5; exact absurd (s5_5.symm.trans s7_5) (by decide))).trans (by decide +kernel)
      · rw [ex7, ex6]; exact (kit_one xc6 xt6 s7_6 (fun e => by rw [e] at s7_6; exact absurd (s6_6.symm.trans s7_6) (by decide))).trans (by decide +kernel)
      · rw [ex7]; exact (kit_one xc7 xt7 s7_7 (fun _ => rfl)).trans (by decide +kernel)
  have ISV : ∀ c ∈ XS, PySem.W.kitOne K (.ref (clOf K c)) (.type "ValueError") = some true := by
    intro c hc
    simp only [XS, List.mem_cons, List.not_mem_nil, or_false] at hc; rcases hc with rfl | rfl | rfl | rfl | rfl | rfl | rfl
    · rw [ex1]; exact kit_ve sv1
    · rw [ex2]; exact kit_ve sv2
    · rw [ex3]; exact kit_ve sv3
    · rw [ex4]; exact kit_ve sv4
    · rw [ex5]; exact kit_ve sv5
    · rw [ex6]; exact kit_ve sv6
    · rw [ex7]; exact kit_ve sv7
  have EXM : ∀ c ∈ XS, PySem.W.exmOne K (.ref (clOf K c)) (.ref (clOf K "BoltError")) = some true := by
    intro c hc
    simp only [XS, List.mem_cons, List.not_mem_nil, or_false] at hc; rcases hc with rfl | rfl | rfl | rfl | rfl | rfl | rfl
    · rw [ex1, ex0]; exact exm_sub xb0 xc0 xt0 s1_0
    · rw [ex2, ex0]; exact exm_sub xb0 xc0 xt0 s2_0
    · rw [ex3, ex0]; exact exm_sub xb0 xc0 xt0 s3_0
    · rw [ex4, ex0]; exact exm_sub xb0 xc0 xt0 s4_0
    · rw [ex5, ex0]; exact exm_sub xb0 xc0 xt0 s5_0
    · rw [ex6, ex0]; exact exm_sub xb0 xc0 xt0 s6_0
    · rw [ex7, ex0]; exact exm_sub xb0 xc0 xt0 s7_0
  have NK_Codes : ∀ f ∈ (["tries", "rest", "rows", "misses", "since", "shut", "last"] : List Str), NoAttr K (clOf K "Codes") f := by
    intro f hf
    rw [ek_Codes]
    simp only [List.mem_cons, List.not_mem_nil, or_false] at hf
    rcases hf with rfl | rfl | rfl | rfl | rfl | rfl | rfl
    · exact n_Codes_tries
    · exact n_Codes_rest
    · exact n_Codes_rows
    · exact n_Codes_misses
    · exact n_Codes_since
    · exact n_Codes_shut
    · exact n_Codes_last
  have KK_Codes : ClsOk K (clOf K) "Codes" ["tries", "rest", "rows", "misses", "since", "shut", "last"] := ⟨by rw [ek_Codes]; exact ⟨pg_Codes, hd_Codes, po_Codes, sa_Codes⟩, NK_Codes⟩
  have C : Ct K mg (clOf K) := ⟨⟨_, PySem.W.mg_of X G gv0⟩, ⟨_, PySem.W.mg_of X G gv1⟩, ⟨_, PySem.W.mg_of X G gv2, kTup (vs := [(.str "lift"), (.str "set")]) hv2 (by simp) (.cons ⟨_, rfl⟩ (.cons ⟨_, rfl⟩ .nil)) fun w => (.cons (.str _) (.cons (.str _) .nil))⟩, X0, X1, X2, X3, X4, X5, X6, X7, EC, ISA, ISV, EXM, PySem.W.mg_none_of X G z_VE, KK_Codes, trivial⟩
  have F0 := fun_mk (st := st_law_cell) l0 c0 k0
  have b0 := F0.binds (ps := ["script", "k"]) fun _ _ _ _ _ _ us hl => match us, hl with | [_, _], _ => rfl
  have F1 := fun_mk (st := st_law_drawn) l1 c1 k1
  have b1 := F1.binds (ps := ["script", "k", "many"]) fun _ _ _ _ _ _ us hl => match us, hl with | [_, _, _], _ => rfl
  have F2 := fun_mk (st := st_Codes_init) l2 c2 k2
  have b2 := F2.binds (ps := ["self", "tries", "rest"]) fun _ _ _ _ _ _ us hl => match us, hl with | [_, _, _], _ => rfl
  have F3 := fun_mk (st := st_is_name) l3 c3 k3
  have b3 := F3.binds (ps := ["thing"]) fun _ _ _ _ _ _ us hl => match us, hl with | [_], _ => rfl
  have F4 := fun_mk (st := st_is_code) l4 c4 k4
  have b4 := F4.binds (ps := ["thing"]) fun _ _ _ _ _ _ us hl => match us, hl with | [_], _ => rfl
  have F5 := fun_mk (st := st_are_rights) l5 c5 k5
  have b5 := F5.binds (ps := ["thing"]) fun _ _ _ _ _ _ us hl => match us, hl with | [_], _ => rfl
  have F6 := fun_mk (st := st_Codes_who) l6 c6 k6
  have b6 := F6.binds (ps := ["self", "code"]) fun _ _ _ _ _ _ us hl => match us, hl with | [_, _], _ => rfl
  have F7 := fun_mk (st := st_Codes_give) l7 c7 k7
  have b7 := F7.binds (ps := ["self", "name", "code", "rights"]) fun _ _ _ _ _ _ us hl => match us, hl with | [_, _, _, _], _ => rfl
  have F8 := fun_mk (st := st_Codes_locked_at) l8 c8 k8
  have b8 := F8.binds (ps := ["self", "moment"]) fun _ _ _ _ _ _ us hl => match us, hl with | [_, _], _ => rfl
  have F9 := fun_mk (st := st_Codes_ask) l9 c9 k9
  have b9 := F9.binds (ps := ["self", "code", "moment", "right"]) fun _ _ _ _ _ _ us hl => match us, hl with | [_, _, _, _], _ => rfl
  have F10 := fun_mk (st := st_law_word) l10 c10 k10
  have b10 := F10.binds (ps := ["e"]) fun _ _ _ _ _ _ us hl => match us, hl with | [_], _ => rfl
  have F11 := fun_mk (st := st_law_told) l11 c11 k11
  have b11 := F11.binds (ps := ["codes", "code", "moment", "right"]) fun _ _ _ _ _ _ us hl => match us, hl with | [_, _, _, _], _ => rfl
  have F12 := fun_mk (st := st_law_is_out) l12 c12 k12
  have b12 := F12.binds (ps := ["codes", "moment"]) fun _ _ _ _ _ _ us hl => match us, hl with | [_, _], _ => rfl
  have F13 := fun_mk (st := st_Codes_take) l13 c13 k13
  have b13 := F13.binds (ps := ["self", "name"]) fun _ _ _ _ _ _ us hl => match us, hl with | [_, _], _ => rfl
  have F14 := fun_mk (st := st_Codes_names) l14 c14 k14
  have b14 := F14.binds (ps := ["self"]) fun _ _ _ _ _ _ us hl => match us, hl with | [_], _ => rfl
  have F15 := fun_mk (st := st_law) l15 c15 k15
  have b15 := F15.binds (ps := ["script"]) fun _ _ _ _ _ _ us hl => match us, hl with | [_], _ => rfl
  refine ⟨PySem.W.fnOf "law" "law" (defArgs st_law) (defBody st_law) (defScope st_law) .none kV15 dc15 pm15 an15 cd15 ct15, fun s v => .of_eq rfl, fun base _ _ => ?_⟩
  have d_law_cell := ok_law_cell (P := l.prog) (w := w) (base := base) (cl := clOf K) F0 b0 (PySem.W.mg_of X G a0) B C
  have d_law_drawn := ok_law_drawn (P := l.prog) (w := w) (base := base) (cl := clOf K) F1 b1 (PySem.W.mg_of X G a1) B C d_law_cell
  have d_Codes_init := ok_Codes_init (P := l.prog) (w := w) (base := base) (cl := clOf K) F2 b2 (by rw [ek_Codes]; exact ⟨mk_Codes, a2, i2, kc_Codes⟩) (by rw [ek_Codes]; exact PySem.W.mg_of X G ak_Codes) B C
  have d_is_name := ok_is_name (P := l.prog) (w := w) (base := base) (cl := clOf K) F3 b3 (PySem.W.mg_of X G a3) B C
  have d_is_code := ok_is_code (P := l.prog) (w := w) (base := base) (cl := clOf K) F4 b4 (PySem.W.mg_of X G a4) B C
  have d_are_rights := ok_are_rights (P := l.prog) (w := w) (base := base) (cl := clOf K) F5 b5 (PySem.W.mg_of X G a5) B C
  have d_Codes_who := ok_Codes_who (P := l.prog) (w := w) (base := base) (cl := clOf K) F6 b6 (by rw [ek_Codes]; exact ⟨a6, i6, k6⟩) B C
  have d_Codes_give := ok_Codes_give (P := l.prog) (w := w) (base := base) (cl := clOf K) F7 b7 (by rw [ek_Codes]; exact ⟨a7, i7, k7⟩) B C d_is_name d_is_code d_are_rights d_Codes_who
  have d_Codes_locked_at := ok_Codes_locked_at (P := l.prog) (w := w) (base := base) (cl := clOf K) F8 b8 (by rw [ek_Codes]; exact ⟨a8, i8, k8⟩) B C
  have d_Codes_ask := ok_Codes_ask (P := l.prog) (w := w) (base := base) (cl := clOf K) F9 b9 (by rw [ek_Codes]; exact ⟨a9, i9, k9⟩) B C d_Codes_locked_at d_Codes_who
  have d_law_word := ok_law_word (P := l.prog) (w := w) (base := base) (cl := clOf K) F10 b10 (PySem.W.mg_of X G a10) B C ev_law_word
  have d_law_told := ok_law_told (P := l.prog) (w := w) (base := base) (cl := clOf K) F11 b11 (PySem.W.mg_of X G a11) B C d_Codes_ask d_law_word
  have d_law_is_out := ok_law_is_out (P := l.prog) (w := w) (base := base) (cl := clOf K) F12 b12 (PySem.W.mg_of X G a12) B C d_law_told d_Codes_locked_at
  have d_Codes_take := ok_Codes_take (P := l.prog) (w := w) (base := base) (cl := clOf K) F13 b13 (by rw [ek_Codes]; exact ⟨a13, i13, k13⟩) B C
  have d_Codes_names := ok_Codes_names (P := l.prog) (w := w) (base := base) (cl := clOf K) F14 b14 (by rw [ek_Codes]; exact ⟨a14, i14, k14⟩) B C
  exact fn_law F15 B C d_law_drawn d_Codes_init d_Codes_give d_law_told d_Codes_locked_at d_law_is_out d_Codes_take d_Codes_who d_Codes_names
end BW
open PySem PySem.W PyProof.Rows
set_option maxRecDepth 100000 in
set_option maxHeartbeats 0 in
theorem PySem.Challenge.cw_boltwatch_k41_whole_locked_holds : PySem.Challenge.rw_boltwatch_k41_whole_locked.Holds := by
  w_on; o_law; k_head; (case hw => w_witness2)
  k_fill
  refine BW.walk_law (l := PySem.Challenge.rw_boltwatch_k41_whole_locked) (k := 5) (m := BW.m_law) BW.lawOk rfl rfl ⟨rfl, by decide, by decide⟩ (fun w h Y => PySem.W.kIn_of Y) ?F
  case F =>
    intro w mg fa h KX G hmg
    refine' BW.all_mk KX G hmg ?gx0 ?xq0 ?xk0 ?xb0 ?xt0 ?xc0 ?xg0 ?xh0 ?xd0 ?xa0 ?xm0 ?gx1 ?xq1 ?xk1 ?xb1 ?xt1 ?xc1 ?xg1 ?xh1 ?xd1 ?xa1 ?xm1 ?gx2 ?xq2 ?xk2 ?xb2 ?xt2 ?xc2 ?xg2 ?xh2 ?xd2 ?xa2 ?xm2 ?gx3 ?xq3 ?xk3 ?xb3 ?xt3 ?xc3 ?xg3 ?xh3 ?xd3 ?xa3 ?xm3 ?gx4 ?xq4 ?xk4 ?xb4 ?xt4 ?xc4 ?xg4 ?xh4 ?xd4 ?xa4 ?xm4 ?gx5 ?xq5 ?xk5 ?xb5 ?xt5 ?xc5 ?xg5 ?xh5 ?xd5 ?xa5 ?xm5 ?gx6 ?xq6 ?xk6 ?xb6 ?xt6 ?xc6 ?xg6 ?xh6 ?xd6 ?xa6 ?xm6 ?gx7 ?xq7 ?xk7 ?xb7 ?xt7 ?xc7 ?xg7 ?xh7 ?xd7 ?xa7 ?xm7 ?xn ?xtk ?z_VE ?sv1 ?s1_0 ?s1_1 ?s1_2 ?s1_3 ?s1_4 ?s1_5 ?s1_6 ?s1_7 ?sv2 ?s2_0 ?s2_1 ?s2_2 ?s2_3 ?s2_4 ?s2_5 ?s2_6 ?s2_7 ?sv3 ?s3_0 ?s3_1 ?s3_2 ?s3_3 ?s3_4 ?s3_5 ?s3_6 ?s3_7 ?sv4 ?s4_0 ?s4_1 ?s4_2 ?s4_3 ?s4_4 ?s4_5 ?s4_6 ?s4_7 ?sv5 ?s5_0 ?s5_1 ?s5_2 ?s5_3 ?s5_4 ?s5_5 ?s5_6 ?s5_7 ?sv6 ?s6_0 ?s6_1 ?s6_2 ?s6_3 ?s6_4 ?s6_5 ?s6_6 ?s6_7 ?sv7 ?s7_0 ?s7_1 ?s7_2 ?s7_3 ?s7_4 ?s7_5 ?s7_6 ?s7_7 ?ak_Codes ?pg_Codes ?hd_Codes ?po_Codes ?sa_Codes ?mk_Codes ?kc_Codes ?n_Codes_tries ?n_Codes_rest ?n_Codes_rows ?n_Codes_misses ?n_Codes_since ?n_Codes_shut ?n_Codes_last ?a0 ?l0 ?c0 ?k0 ?a1 ?l1 ?c1 ?k1 ?a2 ?i2 ?l2 ?c2 ?k2 ?a3 ?l3 ?c3 ?k3 ?a4 ?l4 ?c4 ?k4 ?a5 ?l5 ?c5 ?k5 ?a6 ?i6 ?l6 ?c6 ?k6 ?a7 ?i7 ?l7 ?c7 ?k7 ?a8 ?i8 ?l8 ?c8 ?k8 ?a9 ?i9 ?l9 ?c9 ?k9 ?a10 ?l10 ?c10 ?k10 ?a11 ?l11 ?c11 ?k11 ?a12 ?l12 ?c12 ?k12 ?a13 ?i13 ?l13 ?c13 ?k13 ?a14 ?i14 ?l14 ?c14 ?k14 ?a15 ?l15 ?c15 ?k15 ?gv0 ?gv1 ?gv2 ?hv2 ?z_len ?z_isinstance ?z_int ?z_bool ?z_str ?z_tuple ?z_list ?z_set ?z_dict ?z_all ?z_zip ?z_enumerate ?z_range ?z_sorted ?z_min ?z_max
    (case gx0 => k_is)
    (case xq0 => k_exc)
    (case xk0 => k_is)
    (case xb0 => k_is)
    (case xt0 => k_is)
    (case xc0 => k_is)
    (case xg0 => k_is)
    (case xh0 => k_is)
    (case xd0 => k_is)
    (case xa0 => k_is)
    (case xm0 => k_is)
    (case gx1 => k_is)
    (case xq1 => k_exc)
    (case xk1 => k_is)
    (case xb1 => k_is)
    (case xt1 => k_is)
    (case xc1 => k_is)
    (case xg1 => k_is)
    (case xh1 => k_is)
    (case xd1 => k_is)
    (case xa1 => k_is)
    (case xm1 => k_is)
    (case gx2 => k_is)
    (case xq2 => k_exc)
    (case xk2 => k_is)
    (case xb2 => k_is)
    (case xt2 => k_is)
    (case xc2 => k_is)
    (case xg2 => k_is)
    (case xh2 => k_is)
    (case xd2 => k_is)
    (case xa2 => k_is)
    (case xm2 => k_is)
    (case gx3 => k_is)
    (case xq3 => k_exc)
    (case xk3 => k_is)
    (case xb3 => k_is)
    (case xt3 => k_is)
    (case xc3 => k_is)
    (case xg3 => k_is)
    (case xh3 => k_is)
    (case xd3 => k_is)
    (case xa3 => k_is)
    (case xm3 => k_is)
    (case gx4 => k_is)
    (case xq4 => k_exc)
    (case xk4 => k_is)
    (case xb4 => k_is)
    (case xt4 => k_is)
    (case xc4 => k_is)
    (case xg4 => k_is)
    (case xh4 => k_is)
    (case xd4 => k_is)
    (case xa4 => k_is)
    (case xm4 => k_is)
    (case gx5 => k_is)
    (case xq5 => k_exc)
    (case xk5 => k_is)
    (case xb5 => k_is)
    (case xt5 => k_is)
    (case xc5 => k_is)
    (case xg5 => k_is)
    (case xh5 => k_is)
    (case xd5 => k_is)
    (case xa5 => k_is)
    (case xm5 => k_is)
    (case gx6 => k_is)
    (case xq6 => k_exc)
    (case xk6 => k_is)
    (case xb6 => k_is)
    (case xt6 => k_is)
    (case xc6 => k_is)
    (case xg6 => k_is)
    (case xh6 => k_is)
    (case xd6 => k_is)
    (case xa6 => k_is)
    (case xm6 => k_is)
    (case gx7 => k_is)
    (case xq7 => k_exc)
    (case xk7 => k_is)
    (case xb7 => k_is)
    (case xt7 => k_is)
    (case xc7 => k_is)
    (case xg7 => k_is)
    (case xh7 => k_is)
    (case xd7 => k_is)
    (case xa7 => k_is)
    (case xm7 => k_is)
    (case xn => k_is)
    (case xtk => k_is)
    (case z_VE => k_is)
    (case sv1 => k_is)
    (case s1_0 => first | rfl | k_is)
    (case s1_1 => first | rfl | k_is)
    (case s1_2 => first | rfl | k_is)
    (case s1_3 => first | rfl | k_is)
    (case s1_4 => first | rfl | k_is)
    (case s1_5 => first | rfl | k_is)
    (case s1_6 => first | rfl | k_is)
    (case s1_7 => first | rfl | k_is)
    (case sv2 => k_is)
    (case s2_0 => first | rfl | k_is)
    (case s2_1 => first | rfl | k_is)
    (case s2_2 => first | rfl | k_is)
    (case s2_3 => first | rfl | k_is)
    (case s2_4 => first | rfl | k_is)
    (case s2_5 => first | rfl | k_is)
    (case s2_6 => first | rfl | k_is)
    (case s2_7 => first | rfl | k_is)
    (case sv3 => k_is)
    (case s3_0 => first | rfl | k_is)
    (case s3_1 => first | rfl | k_is)
    (case s3_2 => first | rfl | k_is)
    (case s3_3 => first | rfl | k_is)
    (case s3_4 => first | rfl | k_is)
    (case s3_5 => first | rfl | k_is)
    (case s3_6 => first | rfl | k_is)
    (case s3_7 => first | rfl | k_is)
    (case sv4 => k_is)
    (case s4_0 => first | rfl | k_is)
    (case s4_1 => first | rfl | k_is)
    (case s4_2 => first | rfl | k_is)
    (case s4_3 => first | rfl | k_is)
    (case s4_4 => first | rfl | k_is)
    (case s4_5 => first | rfl | k_is)
    (case s4_6 => first | rfl | k_is)
    (case s4_7 => first | rfl | k_is)
    (case sv5 => k_is)
    (case s5_0 => first | rfl | k_is)
    (case s5_1 => first | rfl | k_is)
    (case s5_2 => first | rfl | k_is)
    (case s5_3 => first | rfl | k_is)
    (case s5_4 => first | rfl | k_is)
    (case s5_5 => first | rfl | k_is)
    (case s5_6 => first | rfl | k_is)
    (case s5_7 => first | rfl | k_is)
    (case sv6 => k_is)
    (case s6_0 => first | rfl | k_is)
    (case s6_1 => first | rfl | k_is)
    (case s6_2 => first | rfl | k_is)
    (case s6_3 => first | rfl | k_is)
    (case s6_4 => first | rfl | k_is)
    (case s6_5 => first | rfl | k_is)
    (case s6_6 => first | rfl | k_is)
    (case s6_7 => first | rfl | k_is)
    (case sv7 => k_is)
    (case s7_0 => first | rfl | k_is)
    (case s7_1 => first | rfl | k_is)
    (case s7_2 => first | rfl | k_is)
    (case s7_3 => first | rfl | k_is)
    (case s7_4 => first | rfl | k_is)
    (case s7_5 => first | rfl | k_is)
    (case s7_6 => first | rfl | k_is)
    (case s7_7 => first | rfl | k_is)
    (case ak_Codes => k_is)
    (case pg_Codes => k_is)
    (case hd_Codes => k_is)
    (case po_Codes => k_is)
    (case sa_Codes => k_is)
    (case mk_Codes => k_is)
    (case kc_Codes => k_is)
    (case n_Codes_tries => k_is)
    (case n_Codes_rest => k_is)
    (case n_Codes_rows => k_is)
    (case n_Codes_misses => k_is)
    (case n_Codes_since => k_is)
    (case n_Codes_shut => k_is)
    (case n_Codes_last => k_is)
    (case a0 => k_is)
    (case l0 => k_is)
    (case c0 => k_is)
    (case k0 => k_is)
    (case a1 => k_is)
    (case l1 => k_is)
    (case c1 => k_is)
    (case k1 => k_is)
    (case a2 => k_is)
    (case i2 => k_is)
    (case l2 => k_is)
    (case c2 => k_is)
    (case k2 => k_is)
    (case a3 => k_is)
    (case l3 => k_is)
    (case c3 => k_is)
    (case k3 => k_is)
    (case a4 => k_is)
    (case l4 => k_is)
    (case c4 => k_is)
    (case k4 => k_is)
    (case a5 => k_is)
    (case l5 => k_is)
    (case c5 => k_is)
    (case k5 => k_is)
    (case a6 => k_is)
    (case i6 => k_is)
    (case l6 => k_is)
    (case c6 => k_is)
    (case k6 => k_is)
    (case a7 => k_is)
    (case i7 => k_is)
    (case l7 => k_is)
    (case c7 => k_is)
    (case k7 => k_is)
    (case a8 => k_is)
    (case i8 => k_is)
    (case l8 => k_is)
    (case c8 => k_is)
    (case k8 => k_is)
    (case a9 => k_is)
    (case i9 => k_is)
    (case l9 => k_is)
    (case c9 => k_is)
    (case k9 => k_is)
    (case a10 => k_is)
    (case l10 => k_is)
    (case c10 => k_is)
    (case k10 => k_is)
    (case a11 => k_is)
    (case l11 => k_is)
    (case c11 => k_is)
    (case k11 => k_is)
    (case a12 => k_is)
    (case l12 => k_is)
    (case c12 => k_is)
    (case k12 => k_is)
    (case a13 => k_is)
    (case i13 => k_is)
    (case l13 => k_is)
    (case c13 => k_is)
    (case k13 => k_is)
    (case a14 => k_is)
    (case i14 => k_is)
    (case l14 => k_is)
    (case c14 => k_is)
    (case k14 => k_is)
    (case a15 => k_is)
    (case l15 => k_is)
    (case c15 => k_is)
    (case k15 => k_is)
    (case gv0 => k_is)
    (case gv1 => k_is)
    (case gv2 => k_is)
    (case hv2 => k_is)
    (case z_len => k_is)
    (case z_isinstance => k_is)
    (case z_int => k_is)
    (case z_bool => k_is)
    (case z_str => k_is)
    (case z_tuple => k_is)
    (case z_list => k_is)
    (case z_set => k_is)
    (case z_dict => k_is)
    (case z_all => k_is)
    (case z_zip => k_is)
    (case z_enumerate => k_is)
    (case z_range => k_is)
    (case z_sorted => k_is)
    (case z_min => k_is)
    (case z_max => k_is)
