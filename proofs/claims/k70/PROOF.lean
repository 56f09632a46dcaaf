import PyProof.Rows.All
import Wide.All
import OpenK.AllK
import Wide.FinOn
import HandS.ForMost
import HandS.ForExc
import HandS.TupAny
import HandS.TupMul
import HandS.Deep
import HandS.Style
import HandS.IsInst
import HandS.Flow
import HandS.CallSlots
import HandS.More
import KE.GoesEnum
import HandS.Zip
import HandS.SortInts
import PySem.Challenge.RW_boltwatch_k70_what_is_a_log
set_option Elab.async false
set_option linter.all false
set_option maxRecDepth 100000
set_option maxHeartbeats 4000000
namespace BW
open PySem L2

/-! ### plain data -/
inductive D where
  | non | bl (b : Bool) | int (i : Int) | str (x : Str)
  | tup (l : List D) | lst (l : List D) | dic (kvs : List (Key × D))
  | scr (ns : List Int) | ref (n : Nat)

inductive Cell where
  | lst (l : List D) | dic (kvs : List (Key × D)) | ins (c : Str) (fs : List (Str × D))
abbrev Store := List Cell
inductive Slot where
  | dat (d : D) | own (l : List D) | ownd (kvs : List (Key × D))
abbrev Env := List (Option Slot)
inductive Res (α : Type) where
  | ok (a : α) (S : Store) | err (c : Str) (S : Store) | bad
def Res.bind {α β : Type} (r : Res α) (k : α → Store → Res β) : Res β := match r with
  | .ok a S => k a S
  | .err c S => .err c S
  | .bad => .bad
theorem Res.bind_ok {α β : Type} (a : α) (S : Store) (k : α → Store → Res β) : (Res.ok a S).bind k = k a S := rfl
theorem Res.bind_err {α β : Type} (c : Str) (S : Store) (k : α → Store → Res β) : (Res.err c S).bind k = .err c S := rfl
def Res.of {α : Type} (S : Store) : Option α → Res α
  | some a => .ok a S
  | none => .bad

/-! ### worlds -/
structure Wd where
  n : Nat
  k : Nat → Addr
  F : Hp

section
variable (K : PySem.W.Frag) (w : Wd)
mutual
inductive R : V → D → Prop
  | non : R .non .non
  | bl (b : Bool) : R (.bl b) (.bl b)
  | int (i : Int) : R (.int i) (.int i)
  | str (x : Str) : R (.str x) (.str x)
  | tup {a : Addr} {vs : List V} {l : List D} : SqT K w.F a vs → RA vs l → R (.ref a) (.tup l)
  | lst {a : Addr} {vs : List V} {l : List D} : w.F a = some (.lst vs) → RA vs l → R (.ref a) (.lst l)
  | dic {a : Addr} {vs : List (Key × V)} {l : List (Key × D)} : Rd w.F a (.dK vs) → RK vs l → R (.ref a) (.dic l)
  | scr {a : Addr} {ns : List Int} : SqL K w.F a (ns.map V.int) → R (.ref a) (.scr ns)
  | ref {i : Nat} : i < w.n → R (.ref (w.k i)) (.ref i)
inductive RA : List V → List D → Prop
  | nil : RA [] []
  | cons {v : V} {d : D} {vs : List V} {ds : List D} : R v d → RA vs ds → RA (v :: vs) (d :: ds)
inductive RK : List (Key × V) → List (Key × D) → Prop
  | nil : RK [] []
  | cons {k : Key} {v : V} {d : D} {vs : List (Key × V)} {ds : List (Key × D)} : R v d → RK vs ds → RK ((k, v) :: vs) ((k, d) :: ds)
end
end

section
variable {K : PySem.W.Frag} {w : Wd}
theorem RA.length : ∀ {vs : List V} {ds : List D}, RA K w vs ds → vs.length = ds.length
  | _, _, .nil => rfl
  | _, _, .cons _ t => by simp [RA.length t]
theorem RA.get : ∀ {vs : List V} {ds : List D} {i : Nat} {d : D}, RA K w vs ds → ds[i]? = some d → ∃ v, vs[i]? = some v ∧ R K w v d
  | _, _, _, _, .nil, e => by simp at e
  | _, _, 0, _, .cons r _, e => by simp at e; subst e; exact ⟨_, rfl, r⟩
  | _, _, i + 1, _, .cons _ t, e => by
    obtain ⟨v, h1, h2⟩ := RA.get (i := i) t (by simpa using e)
    exact ⟨v, by simpa using h1, h2⟩
theorem RA.get' : ∀ {vs : List V} {ds : List D} {i : Nat} {v : V}, RA K w vs ds → vs[i]? = some v → ∃ d, ds[i]? = some d ∧ R K w v d
  | _, _, _, _, .nil, e => by simp at e
  | _, _, 0, _, .cons r _, e => by simp at e; subst e; exact ⟨_, rfl, r⟩
  | _, _, i + 1, _, .cons _ t, e => by
    obtain ⟨v, h1, h2⟩ := RA.get' (i := i) t (by simpa using e)
    exact ⟨v, by simpa using h1, h2⟩
theorem RA.append : ∀ {vs us : List V} {ds es : List D}, RA K w vs ds → RA K w us es → RA K w (vs ++ us) (ds ++ es)
  | _, _, _, _, .nil, s => s
  | _, _, _, _, .cons r t, s => .cons r (RA.append t s)
theorem RA.one {v : V} {d : D} (r : R K w v d) : RA K w [v] [d] := .cons r .nil
theorem RA.take : ∀ {vs : List V} {ds : List D} (n : Nat), RA K w vs ds → RA K w (vs.take n) (ds.take n)
  | _, _, 0, _ => .nil
  | _, _, _ + 1, .nil => .nil
  | _, _, n + 1, .cons r t => .cons r (RA.take n t)
theorem RA.drop : ∀ {vs : List V} {ds : List D} (n : Nat), RA K w vs ds → RA K w (vs.drop n) (ds.drop n)
  | _, _, 0, r => r
  | _, _, _ + 1, .nil => .nil
  | _, _, n + 1, .cons _ t => RA.drop n t
theorem RA.set {v : V} {d : D} (r : R K w v d) : ∀ {vs : List V} {ds : List D} (i : Nat), RA K w vs ds → RA K w (vs.set i v) (ds.set i d)
  | _, _, _, .nil => .nil
  | _, _, 0, .cons _ t => .cons r t
  | _, _, i + 1, .cons q t => .cons q (RA.set r i t)
theorem RA.flat {vs : List V} {ds : List D} (h : RA K w vs ds) : ∀ k : Nat, RA K w (List.replicate k vs).flatten (List.replicate k ds).flatten
  | 0 => .nil
  | k + 1 => by rw [List.replicate_succ, List.replicate_succ, List.flatten_cons, List.flatten_cons]; exact h.append (RA.flat h k)
end

/-! ### from a point on: what was tracked stands, but the cells -/
structure Ext (w : Wd) (H : Hp) (w' : Wd) (H' : Hp) : Prop where
  n : w.n ≤ w'.n
  k : ∀ i, i < w.n → w'.k i = w.k i
  F : Same w.F w'.F
  keep : ∀ a o, H a = some o → (∀ i, i < w.n → w.k i ≠ a) → H' a = some o
  there : ∀ a o, H a = some o → ∃ o', H' a = some o'
  newF : ∀ a o, w'.F a = some o → w.F a = some o ∨ H a = none
  newK : ∀ i, w.n ≤ i → i < w'.n → H (w'.k i) = none
theorem Ext.refl (w : Wd) (H : Hp) : Ext w H w H := ⟨Nat.le_refl _, fun _ _ => rfl, Same.refl _, fun _ _ h _ => h, fun _ o h => ⟨o, h⟩, fun _ _ h => .inl h, fun i h1 h2 => absurd (Nat.lt_of_lt_of_le h2 h1) (Nat.lt_irrefl _)⟩
theorem Ext.back {w w1 : Wd} {H H1 : Hp} (a : Ext w H w1 H1) {x : Addr} (h : H1 x = none) : H x = none := by
  cases e : H x with
  | none => rfl
  | some o =>
    obtain ⟨o', q⟩ := a.there x o e
    rw [q] at h; cases h
theorem Ext.trans {w w1 w2 : Wd} {H H1 H2 : Hp} (a : Ext w H w1 H1) (b : Ext w1 H1 w2 H2) : Ext w H w2 H2 := by
  have kp : ∀ x o, H x = some o → (∀ i, i < w.n → w.k i ≠ x) → ∀ i, i < w1.n → w1.k i ≠ x := fun x o h hk i hi => by
    by_cases q : i < w.n
    · rw [a.k i q]; exact hk i q
    · intro e
      have z := a.newK i (Nat.le_of_not_lt q) hi
      rw [e, h] at z; cases z
  refine ⟨Nat.le_trans a.n b.n, fun i hi => (b.k i (Nat.lt_of_lt_of_le hi a.n)).trans (a.k i hi), a.F.trans b.F, fun x o h hk => b.keep x o (a.keep x o h hk) (kp x o h hk), fun x o h => ?_, fun x o h => ?_, fun i h1 h2 => ?_⟩
  · obtain ⟨o1, q1⟩ := a.there x o h
    exact b.there x o1 q1
  · rcases b.newF x o h with q | q
    · exact a.newF x o q
    · exact .inr (a.back q)
  · by_cases q : i < w1.n
    · rw [b.k i q]; exact a.newK i h1 q
    · exact a.back (b.newK i (Nat.le_of_not_lt q) h2)

section
variable {K : PySem.W.Frag} {w w' : Wd}
/-- what the relation leans on -/
structure Le (w w' : Wd) : Prop where
  n : w.n ≤ w'.n
  k : ∀ i, i < w.n → w'.k i = w.k i
  F : Same w.F w'.F
theorem Ext.le {H H' : Hp} (e : Ext w H w' H') : Le w w' := ⟨e.n, e.k, e.F⟩
theorem SqT.mono {F F' : Hp} {a : Addr} {xs : List V} (e : Same F F') (h : SqT K F a xs) : SqT K F' a xs := by
  rcases h with (h | ⟨o, h⟩) | h
  · exact .inl (.inl (e _ _ h))
  · exact .inl (.inr ⟨o, e _ _ h⟩)
  · exact .inr h
theorem Rd.mono {F F' : Hp} {a : Addr} {u : HO} (e : Same F F') (h : Rd F a u) : Rd F' a u := by
  rcases h with h | ⟨o, h⟩
  · exact .inl (e _ _ h)
  · exact .inr ⟨o, e _ _ h⟩
mutual
theorem R.mono (e : Le w w') : ∀ {v : V} {d : D}, R K w v d → R K w' v d
  | _, _, .non => .non
  | _, _, .bl b => .bl b
  | _, _, .int i => .int i
  | _, _, .str x => .str x
  | _, _, .tup h t => .tup (SqT.mono e.F h) (RA.mono e t)
  | _, _, .lst h t => .lst (e.F _ _ h) (RA.mono e t)
  | _, _, .dic h t => .dic (Rd.mono e.F h) (RK.mono e t)
  | _, _, .scr h => .scr (e.F.seq h)
  | _, _, .ref (i := i) h => by
    rw [← e.k i h]
    exact .ref (Nat.lt_of_lt_of_le h e.n)
theorem RA.mono (e : Le w w') : ∀ {vs : List V} {ds : List D}, RA K w vs ds → RA K w' vs ds
  | _, _, .nil => .nil
  | _, _, .cons r t => .cons (R.mono e r) (RA.mono e t)
theorem RK.mono (e : Le w w') : ∀ {vs : List (Key × V)} {ds : List (Key × D)}, RK K w vs ds → RK K w' vs ds
  | _, _, .nil => .nil
  | _, _, .cons r t => .cons (R.mono e r) (RK.mono e t)
end
end

/-! ### the state -/
inductive RF (K : PySem.W.Frag) (w : Wd) : List (Str × V) → List (Str × D) → Prop
  | nil : RF K w [] []
  | cons {k : Str} {v : V} {d : D} {vs : List (Str × V)} {ds : List (Str × D)} : R K w v d → RF K w vs ds → RF K w ((k, v) :: vs) ((k, d) :: ds)
theorem RF.mono {K : PySem.W.Frag} {w w' : Wd} (e : Le w w') : ∀ {vs : List (Str × V)} {ds : List (Str × D)}, RF K w vs ds → RF K w' vs ds
  | _, _, .nil => .nil
  | _, _, .cons r t => .cons (r.mono e) (RF.mono e t)
def CellOk (K : PySem.W.Frag) (cl : Str → Addr) (w : Wd) (H : Hp) (a : Addr) : Cell → Prop
  | .lst l => ∃ vs, H a = some (.lst vs) ∧ RA K w vs l
  | .dic l => ∃ vs, H a = some (.dK vs) ∧ RK K w vs l
  | .ins c l => ∃ dx vs, H a = some (.ins (cl c) dx vs) ∧ RF K w vs l
theorem CellOk.there {K : PySem.W.Frag} {cl : Str → Addr} {w : Wd} {H : Hp} {a : Addr} {c : Cell} (h : CellOk K cl w H a c) : ∃ o, H a = some o := by
  cases c with
  | lst l => obtain ⟨vs, h, _⟩ := h; exact ⟨_, h⟩
  | dic l => obtain ⟨vs, h, _⟩ := h; exact ⟨_, h⟩
  | ins c l => obtain ⟨dx, vs, h, _⟩ := h; exact ⟨_, h⟩
theorem CellOk.mono {K : PySem.W.Frag} {cl : Str → Addr} {w w' : Wd} {H H' : Hp} {a : Addr} {c : Cell} (e : Le w w') (hk : ∀ o, H a = some o → H' a = some o) (h : CellOk K cl w H a c) : CellOk K cl w' H' a c := by
  cases c with
  | lst l => obtain ⟨vs, h, r⟩ := h; exact ⟨vs, hk _ h, r.mono e⟩
  | dic l => obtain ⟨vs, h, r⟩ := h; exact ⟨vs, hk _ h, r.mono e⟩
  | ins c l => obtain ⟨dx, vs, h, r⟩ := h; exact ⟨dx, vs, hk _ h, r.mono e⟩
structure Ok (K : PySem.W.Frag) (cl : Str → Addr) (w : Wd) (S : Store) (H : Hp) : Prop where
  len : w.n = S.length
  sub : Same w.F H
  cell : ∀ i c, S[i]? = some c → w.F (w.k i) = none ∧ CellOk K cl w H (w.k i) c
  inj : ∀ i j, i < w.n → j < w.n → w.k i = w.k j → i = j

/-- an own object of the frame: not frozen, no cell -/
structure Hid (w : Wd) (a : Addr) : Prop where
  nF : w.F a = none
  nK : ∀ i, i < w.n → w.k i ≠ a
def SlotOk (K : PySem.W.Frag) (w : Wd) (H : Hp) : Slot → V → Prop
  | .dat d, v => R K w v d
  | .own l, v => ∃ a vs, v = .ref a ∧ H a = some (.lst vs) ∧ RA K w vs l ∧ Hid w a
  | .ownd l, v => ∃ a vs, v = .ref a ∧ H a = some (.dK vs) ∧ RK K w vs l ∧ Hid w a
def Slot.isOwn : Slot → Bool
  | .dat _ => false
  | _ => true
structure EnvR (K : PySem.W.Frag) (w : Wd) (H : Hp) (σ : L2.St) (ρ : Env) : Prop where
  len : σ.length = ρ.length
  slot : ∀ (i : Nat) (s : Slot), ρ[i]? = some (some s) → ∃ v, σ[i]? = some (some v) ∧ SlotOk K w H s v
  sep : ∀ (i j : Nat) (s t : Slot) (v : V), i ≠ j → ρ[i]? = some (some s) → ρ[j]? = some (some t) → s.isOwn = true → t.isOwn = true → σ[i]? = some (some v) → σ[j]? = some (some v) → False
section
variable {K : PySem.W.Frag} {w w' : Wd} {H H' : Hp} {σ : L2.St} {ρ : Env}
theorem Hid.mono {a : Addr} {o : HO} (e : Ext w H w' H') (ha : H a = some o) (h : Hid w a) : Hid w' a := by
  refine ⟨?_, fun i hi => ?_⟩
  · cases q : w'.F a with
    | none => rfl
    | some u =>
      rcases e.newF a u q with z | z
      · rw [h.nF] at z; cases z
      · rw [ha] at z; cases z
  · by_cases q : i < w.n
    · rw [e.k i q]; exact h.nK i q
    · intro z
      have y := e.newK i (Nat.le_of_not_lt q) hi
      rw [z, ha] at y; cases y
theorem SlotOk.mono {s : Slot} {v : V} (e : Ext w H w' H') (h : SlotOk K w H s v) : SlotOk K w' H' s v := by
  cases s with
  | dat d => exact R.mono e.le h
  | own l =>
    obtain ⟨a, vs, rfl, ha, r, hi⟩ := h
    exact ⟨a, vs, rfl, e.keep a _ ha hi.nK, r.mono e.le, hi.mono e ha⟩
  | ownd l =>
    obtain ⟨a, vs, rfl, ha, r, hi⟩ := h
    exact ⟨a, vs, rfl, e.keep a _ ha hi.nK, r.mono e.le, hi.mono e ha⟩
theorem EnvR.mono (e : Ext w H w' H') (h : EnvR K w H σ ρ) : EnvR K w' H' σ ρ :=
  ⟨h.len, fun i s hs => let ⟨v, h1, h2⟩ := h.slot i s hs; ⟨v, h1, h2.mono e⟩, h.sep⟩
end

/-! ### what an expression gives -/
section
variable (K : PySem.W.Frag) (cl : Str → Addr)
def Post {α β : Type} (W : WX) (σ : L2.St) (Rl : Wd → β → α → Prop) (w : Wd) (H : Hp) (r : Res α) (Q : β → Hp → Prop) : Prop := match r with
  | .ok d S' => ∀ w' v H', Ext w H w' H' → Ok K cl w' S' H' → Rl w' v d → Q v H'
  | .err c S' => ∀ w' H', Ext w H w' H' → Ok K cl w' S' H' → W (.ref (cl c)) none σ H'
  | .bad => False
def tG {α β : Type} (W : WX) (Rl : Wd → β → α → Prop) (f : Env → Store → Res α) : L2.St → Hp → (β → Hp → Prop) → Prop := fun σ H Q =>
  ∃ w ρ S, Ok K cl w S H ∧ EnvR K w H σ ρ ∧ Post K cl W σ Rl w H (f ρ S) Q
abbrev RB : Wd → Bool → Bool → Prop := fun _ b c => b = c
end
abbrev DE (X : Cx) (cl : Str → Addr) (W : WX) (e : Expr) (f : Env → Store → Res D) : Prop := PE X e (tG X.K cl W (R X.K) f)
abbrev DT (X : Cx) (cl : Str → Addr) (W : WX) (e : Expr) (f : Env → Store → Res Bool) : Prop := PT X e (tG X.K cl W RB f)
abbrev DW (X : Cx) (cl : Str → Addr) (W : WX) (e : Expr) (f : Env → Store → Res Bool) : Prop := PW X e (tG X.K cl W RB f)
abbrev DA (X : Cx) (cl : Str → Addr) (W : WX) (es : List Expr) (f : Env → Store → Res (List D)) : Prop := PA X es (tG X.K cl W (RA X.K) f)

section
variable {K : PySem.W.Frag} {cl : Str → Addr} {W : WX} {σ : L2.St} {w w' : Wd} {H H' : Hp}
theorem Post.mono {α β : Type} {Rl : Wd → β → α → Prop} {r : Res α} {Q : β → Hp → Prop} (e : Ext w H w' H') (h : Post K cl W σ Rl w H r Q) : Post K cl W σ Rl w' H' r Q := by
  cases r with
  | ok d S => exact fun w2 v H2 e2 o2 r2 => h w2 v H2 (e.trans e2) o2 r2
  | err c S => exact fun w2 H2 e2 o2 => h w2 H2 (e.trans e2) o2
  | bad => exact h
theorem Post.bind {α β α' β' : Type} {Rl : Wd → β → α → Prop} {Rl' : Wd → β' → α' → Prop} {r : Res α} {k : α → Store → Res α'} {Q : β' → Hp → Prop} {Q1 : β → Hp → Prop} (h : Post K cl W σ Rl' w H (r.bind k) Q)
    (hk : ∀ d S1 w1 v H1, Ext w H w1 H1 → Ok K cl w1 S1 H1 → Rl w1 v d → Post K cl W σ Rl' w1 H1 (k d S1) Q → Q1 v H1) : Post K cl W σ Rl w H r Q1 := by
  cases r with
  | ok d S => exact fun w1 v H1 e1 o1 r1 => hk d S w1 v H1 e1 o1 r1 (Post.mono e1 h)
  | err c S => exact h
  | bad => exact h
/-- the start of a reading -/
theorem tG.at {α β : Type} {Rl : Wd → β → α → Prop} {f : Env → Store → Res α} {ρ : Env} {S : Store} {Q : β → Hp → Prop} (o : Ok K cl w S H) (n : EnvR K w H σ ρ) (p : Post K cl W σ Rl w H (f ρ S) Q) : tG K cl W Rl f σ H Q := ⟨w, ρ, S, o, n, p⟩
theorem Post.here {α β : Type} {Rl : Wd → β → α → Prop} {d : α} {S : Store} {Q : β → Hp → Prop} {v : β} (h : Post K cl W σ Rl w H (.ok d S) Q) (o : Ok K cl w S H) (r : Rl w v d) : Q v H := h w v H (Ext.refl _ _) o r
end
theorem PE.imp {X : Cx} {e : Expr} {t t' : TE} (h : PE X e t) (i : ∀ σ H Q, t' σ H Q → t σ H Q) : PE X e t' := ⟨fun pins s σ H Q I q => h.run pins s σ H Q I (i σ H Q q)⟩
theorem PT.imp {X : Cx} {e : Expr} {t t' : TT} (h : PT X e t) (i : ∀ σ H Q, t' σ H Q → t σ H Q) : PT X e t' := ⟨fun pins s σ H Q I q => h.run pins s σ H Q I (i σ H Q q)⟩
theorem PW.imp {X : Cx} {e : Expr} {t t' : TT} (h : PW X e t) (i : ∀ σ H Q, t' σ H Q → t σ H Q) : PW X e t' := ⟨fun wh pins s σ H Q I q => h.run wh pins s σ H Q I (i σ H Q q)⟩
theorem PA.imp {X : Cx} {e : List Expr} {t t' : TA} (h : PA X e t) (i : ∀ σ H Q, t' σ H Q → t σ H Q) : PA X e t' := ⟨fun p pins s σ H Q I q => h.run p pins s σ H Q I (i σ H Q q)⟩
theorem PS.imp {X : Cx} {e : Stmt} {t t' : TS} (h : PS X e t) (i : ∀ D σ H, t' D σ H → t D σ H) : PS X e t' := ⟨fun pins s σ H D I q => h.run pins s σ H D I (i D σ H q)⟩
theorem PSs.imp {X : Cx} {e : List Stmt} {t t' : TS} (h : PSs X e t) (i : ∀ D σ H, t' D σ H → t D σ H) : PSs X e t' := ⟨fun pins s σ H D I q => h.run pins s σ H D I (i D σ H q)⟩

/-! ### names, constants -/
def fC (d : D) : Env → Store → Res D := fun _ S => .ok d S
def fV (i : Nat) : Env → Store → Res D := fun ρ S => match ρ[i]? with
  | some (some (.dat d)) => .ok d S
  | _ => .bad
section
variable {X : Cx} {cl : Str → Addr} {W : WX}
theorem de_v (i : Nat) {x : Str} {pos : Pos} (h : PE X (.Name x pos) (tVar i)) : DE X cl W (.Name x pos) (fV i) := by
  refine PE.imp h fun σ H Q ⟨w, ρ, S, o, n, p⟩ => ?_
  unfold fV at p
  split at p
  · rename_i d e
    obtain ⟨v, h1, h2⟩ := n.slot i _ e
    exact ⟨v, h1, p.here o h2⟩
  · exact p.elim
theorem de_c {e : Expr} {v : V} {d : D} (h : PE X e (tC v)) (r : ∀ w, R X.K w v d) : DE X cl W e (fC d) :=
  PE.imp h fun σ H Q ⟨w, ρ, S, o, n, p⟩ => p.here o (r w)
theorem de_int {i j pos} : DE X cl W (.Constant (.int i) j pos) (fC (.int i)) := de_c pe_int fun _ => .int i
theorem de_bl {b j pos} : DE X cl W (.Constant (.bool b) j pos) (fC (.bl b)) := de_c pe_bl fun _ => .bl b
theorem de_non {j pos} : DE X cl W (.Constant .none j pos) (fC .non) := de_c pe_non fun _ => .non
theorem de_str {x j pos} : DE X cl W (.Constant (.str x) j pos) (fC (.str x)) := de_c pe_str fun _ => .str x

/-! ### argument lists, displays -/
def fNil : Env → Store → Res (List D) := fun _ S => .ok [] S
def fCons (f : Env → Store → Res D) (g : Env → Store → Res (List D)) : Env → Store → Res (List D) := fun ρ S =>
  (f ρ S).bind fun d S1 => (g ρ S1).bind fun ds S2 => .ok (d :: ds) S2
theorem da_nil : DA X cl W [] fNil := PA.imp pa_nil fun σ H Q ⟨w, ρ, S, o, n, p⟩ => p.here o .nil
theorem da_cons {e : Expr} {es : List Expr} {f : Env → Store → Res D} {g : Env → Store → Res (List D)} (h : DE X cl W e f) (t : DA X cl W es g)
    (hs : starEach (e :: es) X.env = (false, eval e X.env) :: starEach es X.env := by rfl) : DA X cl W (e :: es) (fCons f g) := by
  refine PA.imp (pa_cons h t hs) fun σ H Q ⟨w, ρ, S, o, n, p⟩ => ?_
  refine tG.at o n (Post.bind p fun d S1 w1 v H1 e1 o1 r1 p1 => tG.at o1 (n.mono e1) (Post.bind p1 fun ds S2 w2 vs H2 e2 o2 r2 p2 => ?_))
  exact p2.here o2 (.cons (r1.mono e2.le) r2)
end
end BW
namespace BW
open PySem L2
def LIM : Nat := 100000
theorem lim_le {n : Nat} (h : n ≤ LIM) : n ≤ sizeLine := Nat.le_trans h (by decide)
theorem lim_lt {n : Nat} (h : n < LIM) : n < sizeLine := Nat.lt_of_lt_of_le h (by decide)

section
variable {K : PySem.W.Frag} {cl : Str → Addr} {W : WX} {σ : L2.St} {w : Wd} {S : Store} {H : Hp}
/-- a frozen new object -/
def Wd.lay (w : Wd) (p : Addr) (o : HO) : Wd := { w with F := upd w.F p o }
theorem Ok.laid (k : Ok K cl w S H) {p : Addr} {o : HO} (hp : H p = none) : Ext w H (w.lay p o) (upd H p o) ∧ Ok K cl (w.lay p o) S (upd H p o) := by
  have nF : w.F p = none := by
    cases e : w.F p with
    | none => rfl
    | some u => rw [k.sub p u e] at hp; cases hp
  have ext : Ext w H (w.lay p o) (upd H p o) := by
    refine ⟨Nat.le_refl _, fun _ _ => rfl, fun b u h => ?_, fun b u h _ => ?_, fun b u h => ?_, fun b u h => ?_, fun i h1 h2 => absurd (Nat.lt_of_lt_of_le h2 h1) (Nat.lt_irrefl _)⟩
    · show upd w.F p o b = some u
      rw [upd_ne (ne_of_none h nF)]; exact h
    · rw [upd_ne (ne_of_none h hp)]; exact h
    · exact ⟨u, by rw [upd_ne (ne_of_none h hp)]; exact h⟩
    · by_cases e : b = p
      · subst e; exact .inr hp
      · have h : upd w.F p o b = some u := h
        rw [upd_ne e] at h; exact .inl h
  refine ⟨ext, k.len, fun b u h => ?_, fun i c h => ?_, k.inj⟩
  · have h : upd w.F p o b = some u := h
    by_cases e : b = p
    · subst e; rw [upd_same] at h ⊢; exact h
    · rw [upd_ne e] at h ⊢; exact k.sub b u h
  · obtain ⟨h1, h2⟩ := k.cell i c h
    obtain ⟨u, hu⟩ := h2.there
    have ne : w.k i ≠ p := ne_of_none hu hp
    refine ⟨?_, CellOk.mono ext.le (fun v hv => ?_) h2⟩
    · show upd w.F p o (w.k i) = none
      rw [upd_ne ne]; exact h1
    · show upd H p o (w.k i) = some v
      rw [upd_ne ne]; exact hv
theorem Ok.layT (k : Ok K cl w S H) {p : Addr} {vs : List V} {ds : List D} (hp : H p = none) (r : RA K w vs ds) : Ext w H (w.lay p (.tup vs)) (upd H p (.tup vs)) ∧ Ok K cl (w.lay p (.tup vs)) S (upd H p (.tup vs)) ∧ R K (w.lay p (.tup vs)) (.ref p) (.tup ds) :=
  let ⟨e, o⟩ := k.laid hp; ⟨e, o, .tup (SqT.of upd_same) (r.mono e.le)⟩
theorem Ok.layL (k : Ok K cl w S H) {p : Addr} {vs : List V} {ds : List D} (hp : H p = none) (r : RA K w vs ds) : Ext w H (w.lay p (.lst vs)) (upd H p (.lst vs)) ∧ Ok K cl (w.lay p (.lst vs)) S (upd H p (.lst vs)) ∧ R K (w.lay p (.lst vs)) (.ref p) (.lst ds) :=
  let ⟨e, o⟩ := k.laid hp; ⟨e, o, .lst upd_same (r.mono e.le)⟩
theorem Ok.layD (k : Ok K cl w S H) {p : Addr} {vs : List (Key × V)} {ds : List (Key × D)} (hp : H p = none) (r : RK K w vs ds) : Ext w H (w.lay p (.dK vs)) (upd H p (.dK vs)) ∧ Ok K cl (w.lay p (.dK vs)) S (upd H p (.dK vs)) ∧ R K (w.lay p (.dK vs)) (.ref p) (.dic ds) :=
  let ⟨e, o⟩ := k.laid hp; ⟨e, o, .dic (.inl upd_same) (r.mono e.le)⟩
/-- reading frozen things in H -/
theorem Ok.sqT (k : Ok K cl w S H) {a : Addr} {vs : List V} (h : SqT K w.F a vs) : SqT K H a vs := SqT.mono k.sub h
theorem Ok.sqL (k : Ok K cl w S H) {a : Addr} {vs : List V} (h : w.F a = some (.lst vs)) : SqL K H a vs := SqL.of (k.sub _ _ h)
theorem Post.okT {α β : Type} {Rl : Wd → β → α → Prop} {d : α} {S' : Store} {Q : β → Hp → Prop} {v : β} {w' : Wd} {H' : Hp} (h : Post K cl W σ Rl w H (.ok d S') Q) (e : Ext w H w' H') (o : Ok K cl w' S' H') (r : Rl w' v d) : Q v H' := h w' v H' e o r
end

section
variable {X : Cx} {cl : Str → Addr} {W : WX}
/-! ### displays -/
def fTup (g : Env → Store → Res (List D)) : Env → Store → Res D := fun ρ S => (g ρ S).bind fun ds S1 => if ds.length ≤ LIM then .ok (.tup ds) S1 else .bad
def fLst (g : Env → Store → Res (List D)) : Env → Store → Res D := fun ρ S => (g ρ S).bind fun ds S1 => if ds.length ≤ LIM then .ok (.lst ds) S1 else .bad
theorem de_tup {es : List Expr} {x1} {pos : Pos} {g : Env → Store → Res (List D)} (h : DA X cl W es g) : DE X cl W (.Tuple es x1 pos) (fTup g) := by
  refine PE.imp (pe_tup h) fun σ H Q ⟨w, ρ, S, o, n, p⟩ => tG.at o n (Post.bind p fun ds S1 w1 vs H1 e1 o1 r1 p1 => ?_)
  split at p1
  · rename_i hl
    refine ⟨lim_le (by rw [r1.length]; exact hl), fun q hq => ?_⟩
    obtain ⟨e, o', r⟩ := o1.layT hq r1
    exact p1.okT e o' r
  · exact p1.elim
theorem de_lst {es : List Expr} {pos : Pos} {g : Env → Store → Res (List D)} (h : DA X cl W es g) : DE X cl W (.List es pos) (fLst g) := by
  refine PE.imp (pe_lst h) fun σ H Q ⟨w, ρ, S, o, n, p⟩ => tG.at o n (Post.bind p fun ds S1 w1 vs H1 e1 o1 r1 p1 => ?_)
  split at p1
  · rename_i hl
    refine ⟨lim_le (by rw [r1.length]; exact hl), fun q hq => ?_⟩
    obtain ⟨e, o', r⟩ := o1.layL hq r1
    exact p1.okT e o' r
  · exact p1.elim

/-! ### two-place operations -/
def r2 (K : PySem.W.Frag) (cl : Str → Addr) (g : D → D → Store → Option D) : R2 := fun x y H Q => ∃ w S d e z, Ok K cl w S H ∧ R K w x d ∧ R K w y e ∧ g d e S = some z ∧
  ∀ w' v H', Ext w H w' H' → Ok K cl w' S H' → R K w' v z → Q v H'
def f2 (g : D → D → Store → Option D) (fa fb : Env → Store → Res D) : Env → Store → Res D := fun ρ S => (fa ρ S).bind fun a S1 => (fb ρ S1).bind fun b S2 => Res.of S2 (g a b S2)
theorem OpR.imp {f : Value → Value → Sem Value} {r r' : R2} (h : OpR X f r) (i : ∀ x y H Q, r' x y H Q → r x y H Q) : OpR X f r' := by
  intro pins s σ H x y v u Q I rx ry q
  exact h pins s σ H x y v u Q I rx ry (i x y H Q q)
theorem of2 {f : Value → Value → Sem Value} {r : R2} {g : D → D → Store → Option D} (h : OpR X f r)
    (i : ∀ x y H Q w S d e z, Ok X.K cl w S H → R X.K w x d → R X.K w y e → g d e S = some z → (∀ w' v H', Ext w H w' H' → Ok X.K cl w' S H' → R X.K w' v z → Q v H') → r x y H Q) : OpR X f (r2 X.K cl g) :=
  OpR.imp h fun x y H Q ⟨w, S, d, e, z, k, r1, r2, hg, q⟩ => i x y H Q w S d e z k r1 r2 hg q
theorem t2_of {fa fb : Env → Store → Res D} {g : D → D → Store → Option D} {σ : L2.St} {H : Hp} {Q : VK} (h : tG X.K cl W (R X.K) (f2 g fa fb) σ H Q) :
    tOp (r2 X.K cl g) (tG X.K cl W (R X.K) fa) (tG X.K cl W (R X.K) fb) σ H Q := by
  obtain ⟨w, ρ, S, o, n, p⟩ := h
  refine tG.at o n (Post.bind p fun a S1 w1 x H1 e1 o1 r1 p1 => tG.at o1 (n.mono e1) (Post.bind p1 fun b S2 w2 y H2 e2 o2 r2 p2 => ?_))
  cases hg : g a b S2 with
  | none => rw [hg] at p2; exact p2.elim
  | some z =>
    rw [hg] at p2
    exact ⟨w2, S2, a, b, z, o2, r1.mono e2.le, r2, hg, fun w' v H' e' o' r' => p2.okT e' o' r'⟩
theorem de_bin {op : Operator} {a b : Expr} {pos : Pos} {g : D → D → Store → Option D} {fa fb : Env → Store → Res D} (ho : OpR X (binaryOp op) (r2 X.K cl g)) (ha : DE X cl W a fa) (hb : DE X cl W b fb) : DE X cl W (.BinOp a op b pos) (f2 g fa fb) :=
  PE.imp (pe_op ho ha hb) fun _ _ _ h => t2_of h
theorem de_cmp {op : CmpOp} {a b : Expr} {pos : Pos} {g : D → D → Store → Option D} {fa fb : Env → Store → Res D} (ho : OpR X (compareOp op) (r2 X.K cl g)) (ha : DE X cl W a fa) (hb : DE X cl W b fb) (hm : behindInMarks op b = false) : DE X cl W (.Compare a [op] [b] pos) (f2 g fa fb) :=
  PE.imp (pe_cmpR ho ha hb hm) fun _ _ _ h => t2_of h

/-- a value's place in the heap -/
theorem R.int_inv {K : PySem.W.Frag} {w : Wd} {v : V} {i : Int} (h : R K w v (.int i)) : v = .int i := by cases h; rfl
theorem R.str_inv {K : PySem.W.Frag} {w : Wd} {v : V} {i : Str} (h : R K w v (.str i)) : v = .str i := by cases h; rfl
theorem R.bl_inv {K : PySem.W.Frag} {w : Wd} {v : V} {i : Bool} (h : R K w v (.bl i)) : v = .bl i := by cases h; rfl
theorem R.non_inv {K : PySem.W.Frag} {w : Wd} {v : V} (h : R K w v .non) : v = .non := by cases h; rfl
theorem R.tup_inv {K : PySem.W.Frag} {w : Wd} {v : V} {l : List D} (h : R K w v (.tup l)) : ∃ a vs, v = .ref a ∧ SqT K w.F a vs ∧ RA K w vs l := by cases h; exact ⟨_, _, rfl, by assumption, by assumption⟩
theorem R.lst_inv {K : PySem.W.Frag} {w : Wd} {v : V} {l : List D} (h : R K w v (.lst l)) : ∃ a vs, v = .ref a ∧ w.F a = some (.lst vs) ∧ RA K w vs l := by cases h; exact ⟨_, _, rfl, by assumption, by assumption⟩
theorem R.dic_inv {K : PySem.W.Frag} {w : Wd} {v : V} {l : List (Key × D)} (h : R K w v (.dic l)) : ∃ a vs, v = .ref a ∧ Rd w.F a (.dK vs) ∧ RK K w vs l := by cases h; exact ⟨_, _, rfl, by assumption, by assumption⟩
theorem R.scr_inv {K : PySem.W.Frag} {w : Wd} {v : V} {l : List Int} (h : R K w v (.scr l)) : ∃ a, v = .ref a ∧ SqL K w.F a (l.map V.int) := by cases h; exact ⟨_, rfl, by assumption⟩
theorem R.ref_inv {K : PySem.W.Frag} {w : Wd} {v : V} {i : Nat} (h : R K w v (.ref i)) : v = .ref (w.k i) ∧ i < w.n := by cases h; exact ⟨rfl, by assumption⟩

def gAdd : D → D → Store → Option D
  | .int i, .int j, _ => some (.int (i + j))
  | .str a, .str b, _ => if a.length + b.length ≤ LIM then some (.str (a ++ b)) else none
  | .tup a, .tup b, _ => if a.length + b.length ≤ LIM then some (.tup (a ++ b)) else none
  | .lst a, .lst b, _ => if a.length + b.length ≤ LIM then some (.lst (a ++ b)) else none
  | _, _, _ => none
theorem o_add : OpR X (binaryOp .Add) (r2 X.K cl gAdd) := by
  refine of2 (op_add.or (op_add_str.or (op_catA.or op_cat))) fun x y H Q w S d e z k r1 r2 hg q => ?_
  cases d <;> cases e <;> simp only [gAdd] at hg <;> try cases hg
  · cases r1; cases r2
    exact .inl ⟨_, _, rfl, rfl, q w _ H (Ext.refl _ _) k (.int _)⟩
  · cases r1; cases r2
    split at hg
    · rename_i hl
      cases hg
      exact .inr (.inl ⟨_, _, rfl, rfl, lim_le hl, q w _ H (Ext.refl _ _) k (.str _)⟩)
    · cases hg
  · obtain ⟨a, vs, rfl, ha, ra⟩ := r1.tup_inv
    obtain ⟨b, us, rfl, hb, rb⟩ := r2.tup_inv
    split at hg
    · rename_i hl
      cases hg
      refine .inr (.inr (.inl ⟨a, b, vs, us, rfl, rfl, k.sqT ha, k.sqT hb, lim_le (by rw [ra.length, rb.length]; exact hl), fun e => ?_, fun _ e => ?_, fun _ _ p hp => ?_⟩))
      · subst e; cases ra
        exact q w _ H (Ext.refl _ _) k r2
      · subst e; cases rb
        rw [List.append_nil] at q
        exact q w _ H (Ext.refl _ _) k r1
      · obtain ⟨e, o, r⟩ := k.layT hp (ra.append rb)
        exact q _ _ _ e o r
    · cases hg
  · obtain ⟨a, vs, rfl, ha, ra⟩ := r1.lst_inv
    obtain ⟨b, us, rfl, hb, rb⟩ := r2.lst_inv
    split at hg
    · rename_i hl
      cases hg
      refine .inr (.inr (.inr ⟨a, b, vs, us, rfl, rfl, k.sub _ _ ha, k.sub _ _ hb, lim_le (by rw [ra.length, rb.length]; exact hl), fun p hp => ?_⟩))
      obtain ⟨e, o, r⟩ := k.layL hp (ra.append rb)
      exact q _ _ _ e o r
    · cases hg
def gSub : D → D → Store → Option D
  | .int i, .int j, _ => some (.int (i - j))
  | _, _, _ => none
theorem o_sub : OpR X (binaryOp .Sub) (r2 X.K cl gSub) := by
  refine of2 op_sub fun x y H Q w S d e z k r1 r2 hg q => ?_
  cases d <;> cases e <;> simp only [gSub] at hg <;> try cases hg
  cases r1; cases r2
  exact ⟨_, _, rfl, rfl, q w _ H (Ext.refl _ _) k (.int _)⟩
def gFdiv : D → D → Store → Option D
  | .int i, .int j, _ => if 0 < j ∧ j < 1073741824 then some (.int (i / j)) else none
  | _, _, _ => none
theorem o_fdiv : OpR X (binaryOp .FloorDiv) (r2 X.K cl gFdiv) := by
  refine of2 op_fdiv fun x y H Q w S d e z k r1 r2 hg q => ?_
  cases d <;> cases e <;> simp only [gFdiv] at hg <;> try cases hg
  cases r1; cases r2
  split at hg
  · rename_i hc
    cases hg
    exact ⟨_, _, rfl, rfl, hc, q w _ H (Ext.refl _ _) k (.int _)⟩
  · cases hg
def gMod : D → D → Store → Option D
  | .int i, .int j, _ => if 0 < j then some (.int (i % j)) else none
  | _, _, _ => none
theorem o_mod : OpR X (binaryOp .Mod) (r2 X.K cl gMod) := by
  refine of2 op_mod fun x y H Q w S d e z k r1 r2 hg q => ?_
  cases d <;> cases e <;> simp only [gMod] at hg <;> try cases hg
  cases r1; cases r2
  split at hg
  · rename_i hc
    cases hg
    exact ⟨_, _, rfl, rfl, hc, q w _ H (Ext.refl _ _) k (.int _)⟩
  · cases hg
def gMul : D → D → Store → Option D
  | .int i, .int j, _ => if (-(2 ^ 64) < i ∧ i < 2 ^ 64) ∨ (-(2 ^ 64) < j ∧ j < 2 ^ 64) then some (.int (i * j)) else none
  | .lst l, .int j, _ => if 0 ≤ j ∧ j ≤ 1000 ∧ l.length ≤ 100 then some (.lst (List.replicate j.toNat l).flatten) else none
  | .tup l, .int j, _ => if l ≠ [] ∧ 2 ≤ j ∧ j ≤ 1000 ∧ l.length ≤ 100 then some (.tup (List.replicate j.toNat l).flatten) else none
  | _, _, _ => none
theorem o_mul : OpR X (binaryOp .Mult) (r2 X.K cl gMul) := by
  refine of2 (op_mul.or (op_rep.or op_repT)) fun x y H Q w S d e z k r1 r2 hg q => ?_
  cases d <;> cases e <;> simp only [gMul] at hg <;> try cases hg
  · cases r1; cases r2
    split at hg
    · rename_i hc
      cases hg
      exact .inl ⟨_, _, rfl, rfl, hc, q w _ H (Ext.refl _ _) k (.int _)⟩
    · cases hg
  · obtain ⟨a, vs, rfl, ha, ra⟩ := r1.tup_inv
    cases r2
    split at hg
    · rename_i j hc
      obtain ⟨h0, h1, h2, h3⟩ := hc
      cases hg
      refine .inr (.inr ⟨a, _, vs, rfl, rfl, k.sqT ha, fun e => ?_, h1, h2, by rw [ra.length]; omega, fun p hp => ?_⟩)
      · subst e; cases ra; exact h0 rfl
      · obtain ⟨e, o, r⟩ := k.layT hp (ra.flat _)
        exact q _ _ _ e o r
    · cases hg
  · obtain ⟨a, vs, rfl, ha, ra⟩ := r1.lst_inv
    cases r2
    split at hg
    · rename_i j hc
      obtain ⟨h1, h2, h3⟩ := hc
      cases hg
      refine .inr (.inl ⟨a, _, vs, rfl, rfl, k.sub _ _ ha, by omega, by omega, ?_, fun p hp => ?_⟩)
      · rw [ra.length]
        refine lim_le ?_
        exact Nat.le_trans (Nat.mul_le_mul h3 (show j.toNat ≤ 1000 by omega)) (by decide)
      · obtain ⟨e, o, r⟩ := k.layL hp (ra.flat j.toNat)
        exact q _ _ _ e o r
    · cases hg
end
end BW
namespace BW
open PySem L2
/-! ### data as the library's PyData -/
mutual
def toPy : D → PyData
  | .non => .none
  | .bl b => .bool b
  | .int i => .int i
  | .str x => .str x
  | .tup l => .tuple (toPys l)
  | .lst l => .list (toPys l)
  | .dic _ => .none
  | .scr ns => .list (ns.map .int)
  | .ref _ => .none
def toPys : List D → List PyData
  | [] => []
  | d :: l => toPy d :: toPys l
end
/-- no names, no dicts, at most n deep -/
def okD : Nat → D → Bool
  | _, .non => true
  | _, .bl _ => true
  | _, .int _ => true
  | _, .str x => PyData.strOk x
  | n + 1, .tup l => l.all (okD n)
  | n + 1, .lst l => l.all (okD n)
  | n + 1, .scr _ => true
  | _, _ => false
/-- == -/
def deq (a b : D) : Bool := PyData.eqv (toPy a) (toPy b)
def deqs (a b : List D) : Bool := PyData.eqvAll (toPys a) (toPys b)
theorem toPys_map : ∀ l : List D, toPys l = l.map toPy
  | [] => rfl
  | d :: l => by rw [toPys, toPys_map l]; rfl
theorem canLayAll_ints : ∀ ns : List Int, PyData.canLayAll0 (ns.map .int) = true
  | [] => rfl
  | n :: ns => by simp [PyData.canLayAll0, PyData.canLay0, canLayAll_ints ns]
theorem depthAll_ints : ∀ ns : List Int, PyData.depthAll (ns.map .int) ≤ 1
  | [] => by simp [PyData.depthAll]
  | n :: ns => by
    have := depthAll_ints ns
    simp only [List.map_cons, PyData.depthAll, PyData.depth]
    omega
theorem okD_lay : ∀ (n : Nat) (d : D), okD n d = true → (toPy d).canLay0 = true ∧ (toPy d).depth ≤ n + 1 := by
  have all : ∀ (n : Nat), (∀ d, okD n d = true → (toPy d).canLay0 = true ∧ (toPy d).depth ≤ n + 1) → ∀ l : List D, l.all (okD n) = true → PyData.canLayAll0 (toPys l) = true ∧ PyData.depthAll (toPys l) ≤ n + 1 := by
    intro n ih l
    induction l with
    | nil => intro _; simp [toPys, PyData.canLayAll0, PyData.depthAll]
    | cons d l il =>
      intro h
      simp only [List.all_cons, Bool.and_eq_true] at h
      obtain ⟨h1, h2⟩ := ih d h.1
      obtain ⟨h3, h4⟩ := il h.2
      simp only [toPys, PyData.canLayAll0, PyData.depthAll, h1, h3, Bool.and_self, true_and]
      omega
  intro n
  induction n with
  | zero =>
    intro d h
    cases d <;> simp_all [okD, toPy, PyData.canLay0, PyData.depth]
  | succ n ih =>
    intro d h
    cases d with
    | tup l =>
      obtain ⟨h1, h2⟩ := all n ih l (by simpa [okD] using h)
      simp only [toPy, PyData.canLay0, PyData.depth, h1, true_and]
      omega
    | lst l =>
      obtain ⟨h1, h2⟩ := all n ih l (by simpa [okD] using h)
      simp only [toPy, PyData.canLay0, PyData.depth, h1, true_and]
      omega
    | scr ns =>
      have := depthAll_ints ns
      simp only [toPy, PyData.canLay0, PyData.depth, canLayAll_ints, true_and]
      omega
    | _ => simp_all [okD, toPy, PyData.canLay0, PyData.depth]
theorem okD_shaped {n : Nat} {d : D} (h : okD n d = true) (hn : n ≤ 60) : SeqAt.shaped (toPy d) = true := by
  obtain ⟨h1, h2⟩ := okD_lay n d h
  unfold SeqAt.shaped
  rw [h1, Bool.true_and]
  exact decide_eq_true (by omega)
theorem dpAll_ints {K : PySem.W.Frag} {H : Hp} : ∀ ns : List Int, DpAll K H (ns.map V.int) (ns.map .int)
  | [] => .nil
  | n :: ns => .cons (.int n) (dpAll_ints ns)
section
variable {K : PySem.W.Frag} {cl : Str → Addr} {w : Wd} {S : Store} {H : Hp}
theorem Ok.dp (k : Ok K cl w S H) : ∀ (n : Nat) {v : V} {d : D}, R K w v d → okD n d = true → Dp K H v (toPy d) := by
  have all : ∀ n, (∀ {v : V} {d : D}, R K w v d → okD n d = true → Dp K H v (toPy d)) → ∀ {l : List D} {vs : List V}, RA K w vs l → l.all (okD n) = true → DpAll K H vs (toPys l) := by
    intro n ih l
    induction l with
    | nil => intro vs r _; cases r; exact .nil
    | cons d l il =>
      intro vs r h
      simp only [List.all_cons, Bool.and_eq_true] at h
      cases r with
      | cons r t => exact .cons (ih r h.1) (il t h.2)
  intro n
  induction n with
  | zero => intro v d r h; cases r <;> first | exact .non | exact .bl _ | exact .int _ | exact .str _ | (simp [okD] at h)
  | succ n ih =>
    intro v d r h
    cases r with
    | non => exact .non
    | bl b => exact .bl b
    | int i => exact .int i
    | str x => exact .str x
    | tup a b => exact .tup (k.sqT a) (all n ih b (by simpa [okD] using h))
    | lst a b => exact .lst (k.sqL a) (all n ih b (by simpa [okD] using h))
    | dic a b => simp [okD] at h
    | scr a => exact .lst (k.sub.seq a) (dpAll_ints _)
    | ref a => simp [okD] at h
end
section
variable {X : Cx} {cl : Str → Addr} {W : WX}
def gEq (neg : Bool) : D → D → Store → Option D := fun a b _ => if okD 12 a && okD 12 b then some (.bl (xor neg (deq a b))) else none
theorem o_eq (hu : X.A.units + 64 < cLine) : OpR X (compareOp .Eq) (r2 X.K cl (gEq false)) := by
  refine of2 (op_eqD hu) fun x y H Q w S d e z k r1 r2 hg q => ?_
  unfold gEq at hg
  split at hg
  · rename_i h
    rw [Bool.and_eq_true] at h
    cases hg
    rw [Bool.false_xor] at q
    exact ⟨_, _, k.dp 12 r1 h.1, k.dp 12 r2 h.2, okD_shaped h.1 (by decide), okD_shaped h.2 (by decide), q w _ H (Ext.refl _ _) k (.bl _)⟩
  · cases hg
theorem o_ne (hu : X.A.units + 64 < cLine) : OpR X (compareOp .NotEq) (r2 X.K cl (gEq true)) := by
  refine of2 (op_neD hu) fun x y H Q w S d e z k r1 r2 hg q => ?_
  unfold gEq at hg
  split at hg
  · rename_i h
    rw [Bool.and_eq_true] at h
    cases hg
    rw [Bool.true_xor] at q
    exact ⟨_, _, k.dp 12 r1 h.1, k.dp 12 r2 h.2, okD_shaped h.1 (by decide), okD_shaped h.2 (by decide), q w _ H (Ext.refl _ _) k (.bl _)⟩
  · cases hg
/-- the ints of a tuple -/
def ints? : List D → Option (List Int)
  | [] => some []
  | .int i :: l => (ints? l).map (i :: ·)
  | _ :: _ => none
theorem ints_ra {K : PySem.W.Frag} {w : Wd} : ∀ {l : List D} {vs : List V} {ns : List Int}, RA K w vs l → ints? l = some ns → vs = ns.map V.int
  | [], _, _, .nil, e => by cases e; rfl
  | .int i :: l, _, ns, .cons r t, e => by
    simp only [ints?, Option.map_eq_some_iff] at e
    obtain ⟨ms, e1, rfl⟩ := e
    cases r
    rw [ints_ra t e1]
    rfl
def gLt : D → D → Store → Option D
  | .int i, .int j, _ => some (.bl (decide (i < j)))
  | .tup a, .tup b, _ => match ints? a, ints? b with
    | some ns, some ms => some (.bl (HT.lexLt ns ms))
    | _, _ => none
  | _, _, _ => none
theorem o_lt (hu : X.A.units + 64 < cLine) : OpR X (compareOp .Lt) (r2 X.K cl gLt) := by
  refine of2 (op_lt.or (op_ltT (Nat.lt_of_le_of_lt (Nat.le_add_right _ _) hu))) fun x y H Q w S d e z k r1 r2 hg q => ?_
  cases d <;> cases e <;> simp only [gLt] at hg <;> try cases hg
  · cases r1; cases r2
    exact .inl ⟨_, _, rfl, rfl, q w _ H (Ext.refl _ _) k (.bl _)⟩
  · obtain ⟨a, vs, rfl, ha, ra⟩ := r1.tup_inv
    obtain ⟨b, us, rfl, hb, rb⟩ := r2.tup_inv
    split at hg
    · rename_i ns ms e1 e2
      cases hg
      have h1 := ints_ra ra e1
      have h2 := ints_ra rb e2
      subst h1 h2
      exact .inr ⟨a, b, ns, ms, rfl, rfl, k.sqT ha, k.sqT hb, q w _ H (Ext.refl _ _) k (.bl _)⟩
    · cases hg
def gI2 (f : Int → Int → Bool) : D → D → Store → Option D
  | .int i, .int j, _ => some (.bl (f i j))
  | _, _, _ => none
theorem oI2 {op : CmpOp} {f : Int → Int → Bool} (h : OpR X (compareOp op) (rI0 fun i j => .bl (f i j))) : OpR X (compareOp op) (r2 X.K cl (gI2 f)) := by
  refine of2 h fun x y H Q w S d e z k r1 r2 hg q => ?_
  cases d <;> cases e <;> simp only [gI2] at hg <;> try cases hg
  cases r1; cases r2
  exact ⟨_, _, rfl, rfl, q w _ H (Ext.refl _ _) k (.bl _)⟩
abbrev gLe := gI2 fun i j => decide (i ≤ j)
abbrev gGt := gI2 fun i j => decide (j < i)
abbrev gGe := gI2 fun i j => decide (j ≤ i)
theorem o_le : OpR X (compareOp .LtE) (r2 X.K cl gLe) := oI2 op_le
theorem o_gt : OpR X (compareOp .Gt) (r2 X.K cl gGt) := oI2 op_gt
theorem o_ge : OpR X (compareOp .GtE) (r2 X.K cl gGe) := oI2 op_ge
/-- is None, is True, is False -/
def isNonD : D → Bool
  | .non => true
  | _ => false
def gIs (neg : Bool) : D → D → Store → Option D
  | d, .non, _ => some (.bl (xor neg (isNonD d)))
  | .bl a, .bl b, _ => some (.bl (xor neg (decide (a = b))))
  | _, _, _ => none
theorem isNon_v {K : PySem.W.Frag} {w : Wd} {v : V} {d : D} (r : R K w v d) : decide (v = .non) = isNonD d := by
  cases r <;> first | rfl | (exact decide_eq_false (fun e => nomatch e))
theorem o_is : OpR X (compareOp .Is) (r2 X.K cl (gIs false)) := by
  refine of2 (op_isN.or op_isBl) fun x y H Q w S d e z k r1 r2 hg q => ?_
  cases e <;> first
    | (simp only [gIs] at hg
       cases hg
       cases r2
       rw [Bool.false_xor] at q
       exact .inl ⟨rfl, by rw [isNon_v r1]; exact q w _ H (Ext.refl _ _) k (.bl _)⟩)
    | (cases d <;> simp only [gIs] at hg <;> try cases hg
       all_goals (cases r1; cases r2
                  rw [Bool.false_xor] at q
                  exact .inr ⟨_, _, rfl, rfl, q w _ H (Ext.refl _ _) k (.bl _)⟩))
theorem o_isnot : OpR X (compareOp .IsNot) (r2 X.K cl (gIs true)) := by
  refine of2 (op_notN.or op_notBl) fun x y H Q w S d e z k r1 r2 hg q => ?_
  cases e <;> first
    | (simp only [gIs] at hg
       cases hg
       cases r2
       rw [Bool.true_xor] at q
       exact .inl ⟨rfl, by rw [isNon_v r1]; exact q w _ H (Ext.refl _ _) k (.bl _)⟩)
    | (cases d <;> simp only [gIs] at hg <;> try cases hg
       all_goals (cases r1; cases r2
                  rw [Bool.true_xor] at q
                  exact .inr ⟨_, _, rfl, rfl, q w _ H (Ext.refl _ _) k (.bl _)⟩))
end
end BW
namespace BW
open PySem L2
section
variable {X : Cx}
/-! ### in, over tuples -/
def rInT (K : PySem.W.Frag) (neg : Bool) : R2 := fun x y H Q => ∃ d ds, Dp K H x d ∧ Dp K H y (.tuple ds) ∧ SeqAt.shaped d = true ∧ SeqAt.shaped (.tuple ds) = true ∧ Q (.bl (xor neg (ds.any fun z => PyData.eqv z d))) H
theorem op_inT (hu : X.A.units + 65 < cLine) : OpR X (compareOp .In) (rInT X.K false) := by
  intro pins s σ H x y v u Q I rx ry h
  obtain ⟨d, ds, hd, he, sd, se, q⟩ := h
  obtain ⟨as, r1⟩ := Dp.reads I d x v hd rx
  obtain ⟨bs, r2⟩ := Dp.reads I (.tuple ds) y u he ry
  rw [Bool.false_xor] at q
  exact SeqAt.in_tuple_reads r2 r1 (SeqAt.canLay_of_shaped se) (SeqAt.canLay_of_shaped sd) (PyProof.Rows.room_in_shaped sd hu) ⟨.bl _, H, I, rfl, q⟩
theorem op_notInT (hu : X.A.units + 65 < cLine) : OpR X (compareOp .NotIn) (rInT X.K true) := by
  intro pins s σ H x y v u Q I rx ry h
  obtain ⟨d, ds, hd, he, sd, se, q⟩ := h
  obtain ⟨as, r1⟩ := Dp.reads I d x v hd rx
  obtain ⟨bs, r2⟩ := Dp.reads I (.tuple ds) y u he ry
  rw [Bool.true_xor] at q
  exact SeqAt.notIn_tuple_reads r2 r1 (SeqAt.canLay_of_shaped se) (SeqAt.canLay_of_shaped sd) (PyProof.Rows.room_in_shaped sd hu) ⟨.bl _, H, I, rfl, q⟩
end
theorem any_toPys (d : D) : ∀ l : List D, (toPys l).any (fun z => PyData.eqv z (toPy d)) = l.any fun z => deq z d
  | [] => rfl
  | e :: l => by simp only [toPys, List.any_cons, any_toPys d l]; rfl
section
variable {X : Cx} {cl : Str → Addr} {W : WX}
def gIn (neg : Bool) : D → D → Store → Option D
  | d, .lst l, _ => if okD 12 d && okD 12 (.lst l) then some (.bl (xor neg (l.any fun z => deq z d))) else none
  | d, .tup l, _ => if okD 12 d && okD 12 (.tup l) then some (.bl (xor neg (l.any fun z => deq z d))) else none
  | .str a, .str b, _ => match a.cps.toList with
    | [c] => some (.bl (xor neg (decide (c ∈ b.cps.toList))))
    | _ => none
  | _, _, _ => none
theorem str_one {a : Str} {c : Nat} (h : a.cps.toList = [c]) : a = ⟨#[c]⟩ := by
  obtain ⟨⟨l⟩⟩ := a
  simp only at h
  subst h
  rfl
theorem o_in (hu : X.A.units + 65 < cLine) : OpR X (compareOp .In) (r2 X.K cl (gIn false)) := by
  refine of2 ((op_inD hu).or ((op_inT hu).or op_in_sign)) fun x y H Q w S d e z k r1 r2 hg q => ?_
  cases e <;> try (cases d <;> simp only [gIn] at hg <;> cases hg)
  · cases d <;> simp only [gIn] at hg <;> try cases hg
    cases r1; cases r2
    split at hg
    · rename_i a b c hc
      cases hg
      rw [Bool.false_xor] at q
      exact .inr (.inr ⟨c, _, by rw [str_one hc], rfl, q w _ H (Ext.refl _ _) k (.bl _)⟩)
    · cases hg
  · rename_i l
    have hg : (if okD 12 d && okD 12 (.tup l) then some (D.bl (xor false (l.any fun z => deq z d))) else none) = some z := by cases d <;> exact hg
    split at hg
    · rename_i h
      rw [Bool.and_eq_true] at h
      cases hg
      refine .inr (.inl ⟨_, toPys l, k.dp 12 r1 h.1, k.dp 12 r2 h.2, okD_shaped h.1 (by decide), okD_shaped (d := .tup l) h.2 (by decide), ?_⟩)
      rw [any_toPys]
      exact q w _ H (Ext.refl _ _) k (.bl _)
    · cases hg
  · rename_i l
    have hg : (if okD 12 d && okD 12 (.lst l) then some (D.bl (xor false (l.any fun z => deq z d))) else none) = some z := by cases d <;> exact hg
    split at hg
    · rename_i h
      rw [Bool.and_eq_true] at h
      cases hg
      rw [Bool.false_xor] at q
      refine .inl ⟨_, toPys l, k.dp 12 r1 h.1, k.dp 12 r2 h.2, okD_shaped h.1 (by decide), okD_shaped (d := .lst l) h.2 (by decide), ?_⟩
      rw [any_toPys]
      exact q w _ H (Ext.refl _ _) k (.bl _)
    · cases hg
theorem o_notin (hu : X.A.units + 65 < cLine) : OpR X (compareOp .NotIn) (r2 X.K cl (gIn true)) := by
  refine of2 ((op_notInD hu).or ((op_notInT hu).or op_notIn_sign)) fun x y H Q w S d e z k r1 r2 hg q => ?_
  cases e <;> try (cases d <;> simp only [gIn] at hg <;> cases hg)
  · cases d <;> simp only [gIn] at hg <;> try cases hg
    cases r1; cases r2
    split at hg
    · rename_i a b c hc
      cases hg
      rw [Bool.true_xor] at q
      exact .inr (.inr ⟨c, _, by rw [str_one hc], rfl, q w _ H (Ext.refl _ _) k (.bl _)⟩)
    · cases hg
  · rename_i l
    have hg : (if okD 12 d && okD 12 (.tup l) then some (D.bl (xor true (l.any fun z => deq z d))) else none) = some z := by cases d <;> exact hg
    split at hg
    · rename_i h
      rw [Bool.and_eq_true] at h
      cases hg
      refine .inr (.inl ⟨_, toPys l, k.dp 12 r1 h.1, k.dp 12 r2 h.2, okD_shaped h.1 (by decide), okD_shaped (d := .tup l) h.2 (by decide), ?_⟩)
      rw [any_toPys]
      exact q w _ H (Ext.refl _ _) k (.bl _)
    · cases hg
  · rename_i l
    have hg : (if okD 12 d && okD 12 (.lst l) then some (D.bl (xor true (l.any fun z => deq z d))) else none) = some z := by cases d <;> exact hg
    split at hg
    · rename_i h
      rw [Bool.and_eq_true] at h
      cases hg
      rw [Bool.true_xor] at q
      refine .inl ⟨_, toPys l, k.dp 12 r1 h.1, k.dp 12 r2 h.2, okD_shaped h.1 (by decide), okD_shaped (d := .lst l) h.2 (by decide), ?_⟩
      rw [any_toPys]
      exact q w _ H (Ext.refl _ _) k (.bl _)
    · cases hg

/-! ### chains -/
def fChain (g g' : D → D → Store → Option D) (fa fb fc : Env → Store → Res D) : Env → Store → Res D := fun ρ S =>
  (fa ρ S).bind fun a S1 => (fb ρ S1).bind fun b S2 => match g a b S2 with
    | some (.bl true) => (fc ρ S2).bind fun c S3 => Res.of S3 (g' b c S3)
    | some (.bl false) => .ok (.bl false) S2
    | _ => .bad
theorem de_chain {op op' : CmpOp} {a b c : Expr} {pos : Pos} {g g' : D → D → Store → Option D} {fa fb fc : Env → Store → Res D} (ho : OpR X (compareOp op) (r2 X.K cl g)) (ho' : OpR X (compareOp op') (r2 X.K cl g'))
    (ha : DE X cl W a fa) (hb : DE X cl W b fb) (hc : DE X cl W c fc) (hm : lastMarks [op, op'] [b, c] = false := by with_unfolding_all rfl) : DE X cl W (.Compare a [op, op'] [b, c] pos) (fChain g g' fa fb fc) := by
  refine PE.imp (pe_chain ho ho' ha hb hc hm) fun σ H Q ⟨w, ρ, S, o, n, p⟩ => ?_
  refine tG.at o n (Post.bind p fun a S1 w1 x H1 e1 o1 r1 p1 => tG.at o1 (n.mono e1) (Post.bind p1 fun b S2 w2 y H2 e2 o2 r2 p2 => ?_))
  have n2 := (n.mono e1).mono e2
  split at p2
  · rename_i hg
    refine ⟨w2, S2, a, b, _, o2, r1.mono e2.le, r2, hg, fun w3 v H3 e3 o3 r3 => ⟨true, r3.bl_inv, ?_⟩⟩
    rw [if_pos rfl]
    refine tG.at o3 (n2.mono e3) (Post.bind (Post.mono e3 p2) fun c S4 w4 z H4 e4 o4 r4 p4 => ?_)
    cases hg' : g' b c S4 with
    | none => rw [hg'] at p4; exact p4.elim
    | some q =>
      rw [hg'] at p4
      exact ⟨w4, S4, b, c, q, o4, (r2.mono e3.le).mono e4.le, r4, hg', fun w' v H' e' o' r' => p4.okT e' o' r'⟩
  · rename_i hg
    refine ⟨w2, S2, a, b, _, o2, r1.mono e2.le, r2, hg, fun w3 v H3 e3 o3 r3 => ⟨false, r3.bl_inv, ?_⟩⟩
    rw [if_neg Bool.false_ne_true]
    exact p2.okT e3 o3 (.bl false)
  · exact p2.elim

/-! ### tests -/
def fB (f : Env → Store → Res D) : Env → Store → Res Bool := fun ρ S => (f ρ S).bind fun d S1 => match d with
  | .bl b => .ok b S1
  | _ => .bad
def fOfB (f : Env → Store → Res Bool) : Env → Store → Res D := fun ρ S => (f ρ S).bind fun b S1 => .ok (.bl b) S1
theorem t_test {f : Env → Store → Res D} {σ : L2.St} {H : Hp} {Q : Bool → Hp → Prop} (h : tG X.K cl W RB (fB f) σ H Q) : tG X.K cl W (R X.K) f σ H fun x H' => ∃ k, x = .bl k ∧ Q k H' := by
  obtain ⟨w, ρ, S, o, n, p⟩ := h
  refine tG.at o n (Post.bind p fun d S1 w1 x H1 e1 o1 r1 p1 => ?_)
  split at p1
  · rename_i b
    exact ⟨b, r1.bl_inv, p1.here o1 rfl⟩
  · exact p1.elim
theorem dt_cmp {op : CmpOp} {a b : Expr} {pos : Pos} {g : D → D → Store → Option D} {fa fb : Env → Store → Res D} (ho : OpR X (compareOp op) (r2 X.K cl g)) (ha : DE X cl W a fa) (hb : DE X cl W b fb) (hm : behindInMarks op b = false) : DT X cl W (.Compare a [op] [b] pos) (fB (f2 g fa fb)) := by
  refine PT.imp (pt_cmpR ho ha hb hm) fun σ H Q h => t2_of ?_
  have := t_test h
  exact this
theorem dt_val {e : Expr} {f : Env → Store → Res D} (h : DE X cl W e f) (he : ∀ whole, isTrue e X.env whole = (do let v ← whole; standAt e.pos; holding [v] (truthy v)) := by intro _; rfl) : DT X cl W e (fB f) :=
  PT.imp (pt_val h he) fun σ H Q h => t_test h
theorem dt_chain {op op' : CmpOp} {a b c : Expr} {pos : Pos} {g g' : D → D → Store → Option D} {fa fb fc : Env → Store → Res D} (ho : OpR X (compareOp op) (r2 X.K cl g)) (ho' : OpR X (compareOp op') (r2 X.K cl g'))
    (ha : DE X cl W a fa) (hb : DE X cl W b fb) (hc : DE X cl W c fc) (hm : lastMarks [op, op'] [b, c] = false := by with_unfolding_all rfl) : DT X cl W (.Compare a [op, op'] [b, c] pos) (fB (fChain g g' fa fb fc)) := by
  refine PT.imp (pt_chain ho ho' ha hb hc hm) fun σ H Q h => ?_
  obtain ⟨w, ρ, S, o, n, p⟩ := t_test h
  refine tG.at o n (Post.bind p fun a S1 w1 x H1 e1 o1 r1 p1 => tG.at o1 (n.mono e1) (Post.bind p1 fun b S2 w2 y H2 e2 o2 r2 p2 => ?_))
  have n2 := (n.mono e1).mono e2
  split at p2
  · rename_i hg
    refine ⟨w2, S2, a, b, _, o2, r1.mono e2.le, r2, hg, fun w3 v H3 e3 o3 r3 => ⟨true, r3.bl_inv, ?_⟩⟩
    rw [if_pos rfl]
    refine tG.at o3 (n2.mono e3) (Post.bind (Post.mono e3 p2) fun c S4 w4 z H4 e4 o4 r4 p4 => ?_)
    cases hg' : g' b c S4 with
    | none => rw [hg'] at p4; exact p4.elim
    | some q =>
      rw [hg'] at p4
      exact ⟨w4, S4, b, c, q, o4, (r2.mono e3.le).mono e4.le, r4, hg', fun w' v H' e' o' r' => p4.okT e' o' r'⟩
  · rename_i hg
    refine ⟨w2, S2, a, b, _, o2, r1.mono e2.le, r2, hg, fun w3 v H3 e3 o3 r3 => ⟨false, r3.bl_inv, ?_⟩⟩
    rw [if_neg Bool.false_ne_true]
    exact p2.okT e3 o3 (.bl false)
  · exact p2.elim
def fAnd (f g : Env → Store → Res Bool) : Env → Store → Res Bool := fun ρ S => (f ρ S).bind fun b S1 => if b = true then g ρ S1 else .ok false S1
def fOr (f g : Env → Store → Res Bool) : Env → Store → Res Bool := fun ρ S => (f ρ S).bind fun b S1 => if b = true then .ok true S1 else g ρ S1
def fNot (f : Env → Store → Res Bool) : Env → Store → Res Bool := fun ρ S => (f ρ S).bind fun b S1 => .ok (!b) S1
variable {a b : Expr} {rest : List Expr} {pos : Pos} {f g : Env → Store → Res Bool}
theorem dw_and1 (h : DT X cl W a f) : DW X cl W (.BoolOp .And [a] pos) f := pw_and1 h
theorem dw_or1 (h : DT X cl W a f) : DW X cl W (.BoolOp .Or [a] pos) f := pw_or1 h
theorem dw_and (h : DT X cl W a f) (t : DW X cl W (.BoolOp .And (b :: rest) pos) g) : DW X cl W (.BoolOp .And (a :: b :: rest) pos) (fAnd f g) := by
  refine PW.imp (pw_and h t) fun σ H Q ⟨w, ρ, S, o, n, p⟩ => tG.at o n (Post.bind p fun c S1 w1 x H1 e1 o1 r1 p1 => ?_)
  cases (show x = c from r1)
  cases c with
  | true => rw [if_pos rfl] at p1 ⊢; exact tG.at o1 (n.mono e1) p1
  | false => rw [if_neg Bool.false_ne_true] at p1 ⊢; exact p1.here o1 rfl
theorem dw_or (h : DT X cl W a f) (t : DW X cl W (.BoolOp .Or (b :: rest) pos) g) : DW X cl W (.BoolOp .Or (a :: b :: rest) pos) (fOr f g) := by
  refine PW.imp (pw_or h t) fun σ H Q ⟨w, ρ, S, o, n, p⟩ => tG.at o n (Post.bind p fun c S1 w1 x H1 e1 o1 r1 p1 => ?_)
  cases (show x = c from r1)
  cases c with
  | true => rw [if_pos rfl] at p1 ⊢; exact p1.here o1 rfl
  | false => rw [if_neg Bool.false_ne_true] at p1 ⊢; exact tG.at o1 (n.mono e1) p1
theorem DW.pt {e : Expr} (h : DW X cl W e f) : DT X cl W e f := PW.pt h
theorem dt_not (h : DT X cl W a f) : DT X cl W (.UnaryOp .Not a pos) (fNot f) := by
  refine PT.imp (pt_not h) fun σ H Q ⟨w, ρ, S, o, n, p⟩ => tG.at o n (Post.bind p fun c S1 w1 x H1 e1 o1 r1 p1 => ?_)
  cases (show x = c from r1)
  exact p1.here o1 rfl
variable {fa fb : Env → Store → Res D}
def vAnd (f g : Env → Store → Res D) : Env → Store → Res D := fun ρ S => (f ρ S).bind fun d S1 => match d with
  | .bl true => g ρ S1
  | .bl false => .ok (.bl false) S1
  | _ => .bad
def vOr (f g : Env → Store → Res D) : Env → Store → Res D := fun ρ S => (f ρ S).bind fun d S1 => match d with
  | .bl true => .ok (.bl true) S1
  | .bl false => g ρ S1
  | _ => .bad
def vNot (f : Env → Store → Res D) : Env → Store → Res D := fun ρ S => (f ρ S).bind fun d S1 => match d with
  | .bl b => .ok (.bl (!b)) S1
  | _ => .bad
theorem de_one {op} (h : DE X cl W a fa) : DE X cl W (.BoolOp op [a] pos) fa := pe_one h
theorem de_and (h : DE X cl W a fa) (t : DE X cl W (.BoolOp .And (b :: rest) pos) fb) : DE X cl W (.BoolOp .And (a :: b :: rest) pos) (vAnd fa fb) := by
  refine PE.imp (pe_and h t) fun σ H Q ⟨w, ρ, S, o, n, p⟩ => tG.at o n (Post.bind p fun c S1 w1 x H1 e1 o1 r1 p1 => ?_)
  split at p1
  · refine ⟨true, r1.bl_inv, ?_⟩
    rw [if_pos rfl]
    exact tG.at o1 (n.mono e1) p1
  · refine ⟨false, r1.bl_inv, ?_⟩
    rw [if_neg Bool.false_ne_true]
    exact p1.here o1 (.bl false)
  · exact p1.elim
theorem de_or (h : DE X cl W a fa) (t : DE X cl W (.BoolOp .Or (b :: rest) pos) fb) : DE X cl W (.BoolOp .Or (a :: b :: rest) pos) (vOr fa fb) := by
  refine PE.imp (pe_or h t) fun σ H Q ⟨w, ρ, S, o, n, p⟩ => tG.at o n (Post.bind p fun c S1 w1 x H1 e1 o1 r1 p1 => ?_)
  split at p1
  · refine ⟨true, r1.bl_inv, ?_⟩
    rw [if_pos rfl]
    exact p1.here o1 (.bl true)
  · refine ⟨false, r1.bl_inv, ?_⟩
    rw [if_neg Bool.false_ne_true]
    exact tG.at o1 (n.mono e1) p1
  · exact p1.elim
theorem de_not (h : DE X cl W a fa) : DE X cl W (.UnaryOp .Not a pos) (vNot fa) := by
  refine PE.imp (pe_not h) fun σ H Q ⟨w, ρ, S, o, n, p⟩ => tG.at o n (Post.bind p fun c S1 w1 x H1 e1 o1 r1 p1 => ?_)
  split at p1
  · rename_i b
    exact ⟨b, r1.bl_inv, p1.here o1 (.bl _)⟩
  · exact p1.elim
def fNeg (f : Env → Store → Res D) : Env → Store → Res D := fun ρ S => (f ρ S).bind fun d S1 => match d with
  | .int i => .ok (.int (-i)) S1
  | _ => .bad
theorem de_neg (h : DE X cl W a fa) : DE X cl W (.UnaryOp .USub a pos) (fNeg fa) := by
  refine PE.imp (pe_un un_neg h) fun σ H Q ⟨w, ρ, S, o, n, p⟩ => tG.at o n (Post.bind p fun c S1 w1 x H1 e1 o1 r1 p1 => ?_)
  split at p1
  · rename_i i
    exact ⟨i, r1.int_inv, p1.here o1 (.int _)⟩
  · exact p1.elim
def fIf (t : Env → Store → Res Bool) (f g : Env → Store → Res D) : Env → Store → Res D := fun ρ S => (t ρ S).bind fun b S1 => if b = true then f ρ S1 else g ρ S1
theorem de_ifExp {c : Expr} (hc : DT X cl W c f) (ha : DE X cl W a fa) (hb : DE X cl W b fb) : DE X cl W (.IfExp c a b pos) (fIf f fa fb) := by
  refine PE.imp (pe_ifExp hc ha hb) fun σ H Q ⟨w, ρ, S, o, n, p⟩ => tG.at o n (Post.bind p fun c S1 w1 x H1 e1 o1 r1 p1 => ?_)
  cases (show x = c from r1)
  cases c with
  | true => rw [if_pos rfl] at p1 ⊢; exact tG.at o1 (n.mono e1) p1
  | false => rw [if_neg Bool.false_ne_true] at p1 ⊢; exact tG.at o1 (n.mono e1) p1
end
end BW
namespace BW
open PySem L2
/-! ### dicts by keys -/
def keyD : D → Option Key
  | .int i => some (.inl i)
  | .str x => some (.inr x)
  | _ => none
def valD (kvs : List (Key × D)) (k : Key) : Option D := (kvs.find? fun kv => decide (kv.1 = k)).map (·.2)
def putD (kvs : List (Key × D)) (k : Key) (v : D) : List (Key × D) :=
  if (kvs.any fun kv => decide (kv.1 = k)) = true then kvs.map fun kv => if kv.1 = k then (kv.1, v) else kv else kvs ++ [(k, v)]
section
variable {K : PySem.W.Frag} {w : Wd}
theorem keyD_v {v : V} {d : D} {k : Key} (r : R K w v d) (h : keyD d = some k) : v = kV k := by
  cases r <;> simp only [keyD] at h <;> cases h <;> rfl
theorem RK.val {k : Key} : ∀ {vs : List (Key × V)} {ds : List (Key × D)}, RK K w vs ds → (valD ds k = none ∧ valV vs k = none) ∨ ∃ v d, valD ds k = some d ∧ valV vs k = some v ∧ R K w v d
  | _, _, .nil => .inl ⟨rfl, rfl⟩
  | _, _, .cons (k := j) (v := v) (d := d) r t => by
    by_cases e : j = k
    · refine .inr ⟨v, d, ?_, ?_, r⟩
      · simp [valD, List.find?_cons, e]
      · simp [valV, List.find?_cons, e]
    · rcases RK.val (k := k) t with ⟨h1, h2⟩ | ⟨v', d', h1, h2, h3⟩
      · refine .inl ⟨?_, ?_⟩
        · simpa [valD, List.find?_cons, e] using h1
        · simpa [valV, List.find?_cons, e] using h2
      · refine .inr ⟨v', d', ?_, ?_, h3⟩
        · simpa [valD, List.find?_cons, e] using h1
        · simpa [valV, List.find?_cons, e] using h2
theorem RK.any {k : Key} : ∀ {vs : List (Key × V)} {ds : List (Key × D)}, RK K w vs ds → (vs.any fun kv => decide (kv.1 = k)) = ds.any fun kv => decide (kv.1 = k)
  | _, _, .nil => rfl
  | _, _, .cons r t => by simp only [List.any_cons, RK.any t]
theorem RK.map {k : Key} {v : V} {d : D} (r : R K w v d) : ∀ {vs : List (Key × V)} {ds : List (Key × D)}, RK K w vs ds → RK K w (vs.map fun kv => if kv.1 = k then (kv.1, v) else kv) (ds.map fun kv => if kv.1 = k then (kv.1, d) else kv)
  | _, _, .nil => .nil
  | _, _, .cons (k := j) q t => by
    simp only [List.map_cons]
    by_cases e : j = k
    · rw [if_pos e, if_pos e]; exact .cons r (RK.map r t)
    · rw [if_neg e, if_neg e]; exact .cons q (RK.map r t)
theorem RK.snoc {k : Key} {v : V} {d : D} (r : R K w v d) : ∀ {vs : List (Key × V)} {ds : List (Key × D)}, RK K w vs ds → RK K w (vs ++ [(k, v)]) (ds ++ [(k, d)])
  | _, _, .nil => .cons r .nil
  | _, _, .cons q t => .cons q (RK.snoc r t)
theorem RK.put {k : Key} {v : V} {d : D} (r : R K w v d) {vs : List (Key × V)} {ds : List (Key × D)} (t : RK K w vs ds) : RK K w (putK vs k v) (putD ds k d) := by
  unfold putK putD
  rw [t.any]
  split
  · exact RK.map r t
  · exact RK.snoc r t
theorem RK.length : ∀ {vs : List (Key × V)} {ds : List (Key × D)}, RK K w vs ds → vs.length = ds.length
  | _, _, .nil => rfl
  | _, _, .cons _ t => by simp [RK.length t]
theorem RK.keys : ∀ {vs : List (Key × V)} {ds : List (Key × D)}, RK K w vs ds → vs.map (·.1) = ds.map (·.1)
  | _, _, .nil => rfl
  | _, _, .cons _ t => by simp [RK.keys t]
end
section
variable {X : Cx} {cl : Str → Addr} {W : WX}
/-- d[k], the key there, by values -/
theorem ix_dict (hu : X.A.units + 1 < cLine) : IxR X (fun x y H Q => ∃ a v, x = .ref a ∧ DGet H a y (some v) ∧ Q v H) := by
  intro value slice pins s σ H x y v u Q I rx ry h hs
  obtain ⟨a, z, rfl, g, q⟩ := h
  cases rx
  exact PyProof.Rows.tail_any (ops := [.ref a, u]) (dict_typeIs I g) PySem.F.slot_dict_getitem.lookup (d_getItem hu I g ry fun w' s3 I3 rw' => ⟨z, H, I3, rw', q⟩) hs
def gIx : D → D → Store → Option D
  | .tup l, .int i, _ => atI l i
  | .lst l, .int i, _ => atI l i
  | .str x, .int i, _ => if x.length ≤ LIM then (atI x.cps.toList i).map fun c => .str ⟨#[c]⟩ else none
  | .scr ns, .int i, _ => (atI ns i).map .int
  | .dic kvs, d, _ => (keyD d).bind fun k => valD kvs k
  | .ref n, d, S => match S[n]? with
    | some (.lst l) => match d with
      | .int i => atI l i
      | _ => none
    | some (.dic kvs) => (keyD d).bind fun k => valD kvs k
    | _ => none
  | _, _, _ => none
theorem RA.atI {K : PySem.W.Frag} {w : Wd} {vs : List V} {l : List D} {i : Int} {d : D} (r : RA K w vs l) (h : L2.atI l i = some d) : ∃ v, L2.atI vs i = some v ∧ R K w v d := by
  unfold L2.atI at h ⊢
  rw [r.length]
  cases e : ixN l.length i with
  | none => rw [e] at h; cases h
  | some j =>
    rw [e] at h
    exact r.get h
theorem IxR.imp {r r' : R2} (h : IxR X r) (i : ∀ x y H Q, r' x y H Q → r x y H Q) : IxR X r' := by
  intro value slice pins s σ H x y v u Q I rx ry q hs
  exact h value slice pins s σ H x y v u Q I rx ry (i x y H Q q) hs
theorem atI_map {α β : Type} (f : α → β) (l : List α) (i : Int) : L2.atI (l.map f) i = (L2.atI l i).map f := by
  unfold L2.atI
  rw [List.length_map]
  cases ixN l.length i <;> simp
theorem i_ix (hu : X.A.units + 1 < cLine) : IxR X (r2 X.K cl gIx) := by
  refine IxR.imp (ix_list.or (ix_tup.or (ix_str.or (ix_dict hu)))) fun x y H Q ⟨w, S, d, e, z, k, r1, r2, hg, q⟩ => ?_
  have dk : ∀ {a : Addr} {vs : List (Key × V)} {kvs : List (Key × D)}, Rd H a (.dK vs) → RK X.K w vs kvs → ((keyD e).bind fun k => valD kvs k) = some z → ∃ b v, V.ref a = .ref b ∧ DGet H b y (some v) ∧ Q v H := by
    intro a vs kvs ha ra hz
    cases hk : keyD e with
    | none => rw [hk] at hz; cases hz
    | some kk =>
      rw [hk] at hz
      have ey := keyD_v r2 hk
      subst ey
      rcases ra.val (k := kk) with ⟨h1, _⟩ | ⟨v, d', h1, h2, h3⟩
      · have hz : valD kvs kk = some z := hz
        rw [h1] at hz; cases hz
      · have hz : valD kvs kk = some z := hz
        rw [h1] at hz; cases hz
        exact ⟨a, v, rfl, .inl ⟨vs, kk, ha, rfl, h2.symm⟩, q w v H (Ext.refl _ _) k h3⟩
  cases d with
  | tup l =>
    obtain ⟨a, vs, rfl, ha, ra⟩ := r1.tup_inv
    cases e <;> simp only [gIx] at hg <;> try cases hg
    rename_i i
    cases r2
    obtain ⟨v, hv, rv⟩ := ra.atI hg
    exact .inr (.inl ⟨a, vs, i, v, rfl, rfl, k.sqT ha, hv, q w v H (Ext.refl _ _) k rv⟩)
  | lst l =>
    obtain ⟨a, vs, rfl, ha, ra⟩ := r1.lst_inv
    cases e <;> simp only [gIx] at hg <;> try cases hg
    rename_i i
    cases r2
    obtain ⟨v, hv, rv⟩ := ra.atI hg
    exact .inl ⟨a, vs, i, v, rfl, rfl, k.sqL ha, hv, q w v H (Ext.refl _ _) k rv⟩
  | str s =>
    cases r1
    cases e <;> simp only [gIx] at hg <;> try cases hg
    rename_i i
    cases r2
    split at hg
    · rename_i hl
      cases hc : L2.atI s.cps.toList i with
      | none => rw [hc] at hg; cases hg
      | some c =>
        rw [hc] at hg
        cases hg
        exact .inr (.inr (.inl ⟨s, i, c, rfl, rfl, lim_le hl, hc, q w _ H (Ext.refl _ _) k (.str _)⟩))
    · cases hg
  | scr ns =>
    obtain ⟨a, rfl, ha⟩ := r1.scr_inv
    cases e <;> simp only [gIx] at hg <;> try cases hg
    rename_i i
    cases r2
    cases hc : L2.atI ns i with
    | none => rw [hc] at hg; cases hg
    | some c =>
      rw [hc] at hg
      cases hg
      exact .inl ⟨a, _, i, .int c, rfl, rfl, k.sub.seq ha, by rw [atI_map, hc]; rfl, q w _ H (Ext.refl _ _) k (.int _)⟩
  | dic kvs =>
    obtain ⟨a, vs, rfl, ha, ra⟩ := r1.dic_inv
    exact .inr (.inr (.inr (dk (Rd.mono k.sub ha) ra (by cases e <;> exact hg))))
  | ref n =>
    obtain ⟨rfl, hn⟩ := r1.ref_inv
    have hg : (match S[n]? with
      | some (.lst l) => match e with
        | .int i => L2.atI l i
        | _ => none
      | some (.dic kvs) => (keyD e).bind fun k => valD kvs k
      | _ => none) = some z := by cases e <;> exact hg
    split at hg
    · rename_i l hc
      obtain ⟨_, vs, ha, ra⟩ := k.cell n _ hc
      split at hg
      · rename_i i r2 dk hg0
        cases r2
        obtain ⟨v, hv, rv⟩ := ra.atI hg
        exact .inl ⟨_, vs, i, v, rfl, rfl, SqL.of ha, hv, q w v H (Ext.refl _ _) k rv⟩
      · cases hg
    · rename_i kvs hc
      obtain ⟨_, vs, ha, ra⟩ := k.cell n _ hc
      exact .inr (.inr (.inr (dk (.inl ha) ra hg)))
    · cases hg
  | _ => cases e <;> simp only [gIx] at hg <;> cases hg
theorem de_ix {a b : Expr} {pos : Pos} {fa fb : Env → Store → Res D} (hu : X.A.units + 1 < cLine) (ha : DE X cl W a fa) (hb : DE X cl W b fb) (hs : PlainIx b := by intro _ _; rfl) : DE X cl W (.Subscript a b pos) (f2 gIx fa fb) :=
  PE.imp (pe_ix (i_ix hu) ha hb hs) fun _ _ _ h => t2_of h

/-! ### slices -/
abbrev RO : Wd → Option Int → Option Int → Prop := fun _ b c => b = c
abbrev DO (X : Cx) (cl : Str → Addr) (W : WX) (e : Option Expr) (f : Env → Store → Res (Option Int)) : Prop := PO X e (tG X.K cl W RO f)
theorem PO.imp {X : Cx} {e : Option Expr} {t t' : TO} (h : PO X e t) (i : ∀ σ H Q, t' σ H Q → t σ H Q) : PO X e t' := ⟨fun pins s σ H Q I q => h.run pins s σ H Q I (i σ H Q q)⟩
def oNone : Env → Store → Res (Option Int) := fun _ S => .ok none S
def oSome (f : Env → Store → Res D) : Env → Store → Res (Option Int) := fun ρ S => (f ρ S).bind fun d S1 => match d with
  | .int i => .ok (some i) S1
  | _ => .bad
theorem do_none : DO X cl W none oNone := PO.imp po_none fun σ H Q ⟨w, ρ, S, o, n, p⟩ => p.here o rfl
theorem do_some {e : Expr} {f : Env → Store → Res D} (h : DE X cl W e f) : DO X cl W (some e) (oSome f) := by
  refine PO.imp (po_some h) fun σ H Q ⟨w, ρ, S, o, n, p⟩ => tG.at o n (Post.bind p fun d S1 w1 x H1 e1 o1 r1 p1 => ?_)
  split at p1
  · exact ⟨_, r1.int_inv, p1.here o1 rfl⟩
  · exact p1.elim
def cutD (xs : List D) (lo hi : Option Int) : List D := (xs.drop (HT.sIx xs.length 0 lo)).take (HT.sIx xs.length xs.length hi - HT.sIx xs.length 0 lo)
theorem RA.cut {K : PySem.W.Frag} {w : Wd} {vs : List V} {l : List D} (r : RA K w vs l) (lo hi : Option Int) : RA K w (cutV vs lo hi) (cutD l lo hi) := by
  unfold cutV cutD
  rw [r.length]
  exact (r.drop _).take _
def gCut : D → Option Int → Option Int → Option D
  | .tup l, lo, hi => some (.tup (cutD l lo hi))
  | .lst l, lo, hi => some (.lst (cutD l lo hi))
  | .str x, lo, hi => if x.length ≤ LIM then some (.str (cutS x lo hi)) else none
  | _, _, _ => none
def fCut (f : Env → Store → Res D) (l h : Env → Store → Res (Option Int)) : Env → Store → Res D := fun ρ S => (f ρ S).bind fun d S1 => (l ρ S1).bind fun lo S2 => (h ρ S2).bind fun hi S3 => Res.of S3 (gCut d lo hi)
theorem cutD_all {l : List D} {lo hi : Option Int} (h : HT.sIx l.length 0 lo = 0 ∧ HT.sIx l.length l.length hi = l.length) : cutD l lo hi = l := by
  unfold cutD
  rw [h.1, h.2]
  simp
theorem de_cut {e : Expr} {lo hi : Option Expr} {p2 pos : Pos} {f : Env → Store → Res D} {l h : Env → Store → Res (Option Int)} (he : DE X cl W e f) (hl : DO X cl W lo l) (hh : DO X cl W hi h) : DE X cl W (.Subscript e (.Slice lo hi none p2) pos) (fCut f l h) := by
  refine PE.imp (pe_slice (sl_list.or (sl_tupA.or sl_str)) he hl hh) fun σ H Q ⟨w, ρ, S, o, n, p⟩ => tG.at o n (Post.bind p fun d S1 w1 x H1 e1 o1 r1 p1 => tG.at o1 (n.mono e1) (Post.bind p1 fun i S2 w2 i' H2 e2 o2 ri p2 => ?_))
  cases (show i' = i from ri)
  refine tG.at o2 ((n.mono e1).mono e2) (Post.bind p2 fun j S3 w3 j' H3 e3 o3 rj p3 => ?_)
  cases (show j' = j from rj)
  have r3 := (r1.mono e2.le).mono e3.le
  cases d <;> simp only [gCut] at p3 <;> try exact p3.elim
  · split at p3
    · rename_i hl
      cases r3
      exact .inr (.inr ⟨_, rfl, lim_le hl, p3.here o3 (.str _)⟩)
    · exact p3.elim
  · obtain ⟨a, vs, rfl, ha, ra⟩ := r3.tup_inv
    refine .inr (.inl ⟨a, vs, rfl, o3.sqT ha, fun hw => ?_, fun _ q hq => ?_⟩)
    · rw [ra.length] at hw
      rw [cutD_all hw] at p3
      exact p3.here o3 r3
    · obtain ⟨e, o', r⟩ := o3.layT hq (ra.cut i j)
      exact p3.okT e o' r
  · obtain ⟨a, vs, rfl, ha, ra⟩ := r3.lst_inv
    refine .inl ⟨a, vs, rfl, o3.sqL ha, fun q hq => ?_⟩
    obtain ⟨e, o', r⟩ := o3.layL hq (ra.cut i j)
    exact p3.okT e o' r

/-! ### built-in calls by values -/
def rN (K : PySem.W.Frag) (cl : Str → Addr) (g : List D → Store → Option D) : List V → Hp → VK → Prop := fun xs H Q => ∃ w S ds z, Ok K cl w S H ∧ RA K w xs ds ∧ g ds S = some z ∧
  ∀ w' v H', Ext w H w' H' → Ok K cl w' S H' → R K w' v z → Q v H'
def fN (g : List D → Store → Option D) (fa : Env → Store → Res (List D)) : Env → Store → Res D := fun ρ S => (fa ρ S).bind fun ds S1 => Res.of S1 (g ds S1)
theorem CallR.imp {f : Value} {r r' : List V → Hp → VK → Prop} (h : CallR X f r) (i : ∀ xs H Q, r' xs H Q → r xs H Q) : CallR X f r' := by
  intro pins s σ H xs us Q I rx q
  exact h pins s σ H xs us Q I rx (i xs H Q q)
theorem ofN {f : Value} {r : List V → Hp → VK → Prop} {g : List D → Store → Option D} (h : CallR X f r)
    (i : ∀ xs H Q w S ds z, Ok X.K cl w S H → RA X.K w xs ds → g ds S = some z → (∀ w' v H', Ext w H w' H' → Ok X.K cl w' S H' → R X.K w' v z → Q v H') → r xs H Q) : CallR X f (rN X.K cl g) :=
  CallR.imp h fun xs H Q ⟨w, S, ds, z, k, ra, hg, q⟩ => i xs H Q w S ds z k ra hg q
theorem tN_of {g : List D → Store → Option D} {fa : Env → Store → Res (List D)} {σ : L2.St} {H : Hp} {Q : VK} (h : tG X.K cl W (R X.K) (fN g fa) σ H Q) : tCB (rN X.K cl g) (tG X.K cl W (RA X.K) fa) σ H Q := by
  obtain ⟨w, ρ, S, o, n, p⟩ := h
  refine tG.at o n (Post.bind p fun ds S1 w1 xs H1 e1 o1 r1 p1 => ?_)
  cases hg : g ds S1 with
  | none => rw [hg] at p1; exact p1.elim
  | some z =>
    rw [hg] at p1
    exact ⟨w1, S1, ds, z, o1, r1, hg, fun w' v H' e' o' r' => p1.okT e' o' r'⟩
theorem de_callB {x : Str} {p pos : Pos} {e : Expr} {es : List Expr} {id : String} {g : List D → Store → Option D} {fa : Env → Store → Res (List D)} (hc : CallR X (.builtin id) (rN X.K cl g)) (hg : Gl X x) (hm : X.mg x = none) (hv : bootBuiltins x = some (.builtin id)) (ha : DA X cl W (e :: es) fa)
    (hn : x ≠ "__name__" := by decide) (hdb : (x == ("__debug__" : Str)) = false := by decide) (he : starEach (e :: es) X.env = (false, eval e X.env) :: starEach es X.env := by rfl) (hpl : (backTo pos (starEach es X.env)).any (·.1) = false := by rfl) :
    DE X cl W (.Call (.Name x p) (e :: es) [] pos) (fN g fa) := PE.imp (pe_callB hc hg hm hv ha hn hdb he hpl) fun _ _ _ h => tN_of h
theorem de_callTy {x : Str} {p pos : Pos} {e : Expr} {es : List Expr} {T : String} {g : List D → Store → Option D} {fa : Env → Store → Res (List D)} (hc : CallR X (.type T) (rN X.K cl g)) (hg : Gl X x) (hm : X.mg x = none) (hv : bootBuiltins x = some (.type T)) (ha : DA X cl W (e :: es) fa)
    (hn : x ≠ "__name__" := by decide) (hdb : (x == ("__debug__" : Str)) = false := by decide) (he : starEach (e :: es) X.env = (false, eval e X.env) :: starEach es X.env := by rfl) (hpl : (backTo pos (starEach es X.env)).any (·.1) = false := by rfl) :
    DE X cl W (.Call (.Name x p) (e :: es) [] pos) (fN g fa) := PE.imp (pe_callTy hc hg hm hv ha hn hdb he hpl) fun _ _ _ h => tN_of h

/-! ### calls of defs -/
def spM (K : PySem.W.Frag) (cl : Str → Addr) (np : Nat) (m : List D → Store → Res D) : Sp := fun vs H Q E => ∃ w S ds, Ok K cl w S H ∧ RA K w vs ds ∧ ds.length = np ∧ Post K cl (fun c d _ H => E c d H) [] (R K) w H (m ds S) Q
def fM (n : Nat) (m : List D → Store → Res D) (fa : Env → Store → Res (List D)) : Env → Store → Res D := fun ρ S => (fa ρ S).bind fun ds S1 => if ds.length = n then m ds S1 else .bad
/-- a def of the text, as it stands: m is what it gives -/
structure Df (P : Program) (w : World) (K : PySem.W.Frag) (mg : Str → Option Value) (base : Heap) (cl : Str → Addr) (k : Nat) (x : Str) (ps : List Str) (m : List D → Store → Res D) : Prop where
  ex : ∃ f fd, FnOk P w K mg base (L2.CX P w) k f fd ps (spM K cl ps.length m) ∧ mg x = some (.ref f) ∧ PySem.W.keepIn K (.ref f) = true ∧ Binds K fd ps []
theorem Post.w {K : PySem.W.Frag} {α β : Type} {Rl : Wd → β → α → Prop} {W W' : WX} {σ σ' : L2.St} {w : Wd} {H : Hp} {r : Res α} {Q : β → Hp → Prop} (h : Post K cl W σ Rl w H r Q) (hW : ∀ c H', W (.ref (cl c)) none σ H' → W' (.ref (cl c)) none σ' H') : Post K cl W' σ' Rl w H r Q := by
  cases r with
  | ok d S => exact h
  | err c S => exact fun w' H' e o => hW c H' (h w' H' e o)
  | bad => exact h
theorem de_call {k j n : Nat} {x : Str} {ps : List Str} {m : List D → Store → Res D} {p pos : Pos} {e : Expr} {es : List Expr} {fa : Env → Store → Res (List D)} (G : Df X.prog X.w X.K X.mg X.base cl k x ps m) (hr : Room j X.A) (hj : k ≤ j) (hg : Gl X x) (tk : Takes X W) (ha : DA X cl W (e :: es) fa)
    (hn : ps.length = n := by rfl) (hdb : (x == ("__debug__" : Str)) = false := by decide) (he : starEach (e :: es) X.env = (false, eval e X.env) :: starEach es X.env := by rfl) (hpl : (backTo pos (starEach es X.env)).any (·.1) = false := by rfl) :
    DE X cl W (.Call (.Name x p) (e :: es) [] pos) (fM n m fa) := by
  subst hn
  obtain ⟨f, fd, F, hm, hk, hb⟩ := G.ex
  refine PE.imp (pe_callSD F (hr.mono hj) hg hm hk hb .nil (fun σ => passAt tk σ) ha hdb he hpl) fun σ H Q ⟨w, ρ, S, o, n, p⟩ => ?_
  refine tG.at o n (Post.bind p fun ds S1 w1 xs H1 e1 o1 r1 p1 => ?_)
  split at p1
  · rename_i hl
    rw [List.append_nil]
    exact ⟨w1, S1, ds, o1, r1, hl, Post.w p1 fun c H' h => h⟩
  · exact p1.elim
end
end BW
namespace BW
open PySem L2
/-! ### statements -/
inductive Out where
  | next (ρ : Env) (S : Store) | ret (d : D) (S : Store) | brk (ρ : Env) (S : Store) | cont (ρ : Env) (S : Store) | err (c : Str) (ρ : Env) (S : Store) | bad
abbrev Stm := Env → Store → Out
structure Pt where
  w : Wd
  H : Hp
def Fresh (H0 : Hp) (σ : L2.St) (ρ : Env) : Prop := ∀ (i : Nat) (s : Slot) (a : Addr), ρ[i]? = some (some s) → s.isOwn = true → σ[i]? = some (some (.ref a)) → H0 a = none
section
variable (K : PySem.W.Frag) (cl : Str → Addr) (e : Pt) (W : WX)
/-- a frame's state -/
structure Fs (σ : L2.St) (H : Hp) (w : Wd) (ρ : Env) (S : Store) : Prop where
  ext : Ext e.w e.H w H
  ok : Ok K cl w S H
  env : EnvR K w H σ ρ
  fr : Fresh e.H σ ρ
def PostS (w : Wd) (Z : Ends) (o : Out) : Prop := match o with
  | .next ρ' S' => ∀ w' σ' H', Le w w' → Fs K cl e σ' H' w' ρ' S' → Z.nx σ' H'
  | .ret d S' => ∀ w' v H', Le w w' → Ext e.w e.H w' H' → Ok K cl w' S' H' → R K w' v d → Z.rt v H'
  | .brk ρ' S' => ∀ w' σ' H', Le w w' → Fs K cl e σ' H' w' ρ' S' → Z.bk σ' H'
  | .cont ρ' S' => ∀ w' σ' H', Le w w' → Fs K cl e σ' H' w' ρ' S' → Z.ct σ' H'
  | .err c ρ' S' => ∀ w' σ' H', Le w w' → Fs K cl e σ' H' w' ρ' S' → W (.ref (cl c)) none σ' H'
  | .bad => False
def tSt (g : Stm) : TS := fun Z σ H => ∃ w ρ S, Fs K cl e σ H w ρ S ∧ PostS K cl e W w Z (g ρ S)
end
abbrev DS (X : Cx) (cl : Str → Addr) (e : Pt) (W : WX) (st : Stmt) (g : Stm) : Prop := PS X st (tSt X.K cl e W g)
abbrev DSs (X : Cx) (cl : Str → Addr) (e : Pt) (W : WX) (st : List Stmt) (g : Stm) : Prop := PSs X st (tSt X.K cl e W g)
/-- an expression within a statement -/
def Out.of {α : Type} (r : Res α) (ρ : Env) (k : α → Store → Out) : Out := match r with
  | .ok a S => k a S
  | .err c S => .err c ρ S
  | .bad => .bad
section
variable {K : PySem.W.Frag} {cl : Str → Addr} {e : Pt} {W : WX} {Z : Ends} {σ : L2.St} {H : Hp} {w : Wd} {ρ : Env} {S : Store}
theorem Le.refl (w : Wd) : Le w w := ⟨Nat.le_refl _, fun _ _ => rfl, Same.refl _⟩
theorem Le.trans {w w1 w2 : Wd} (a : Le w w1) (b : Le w1 w2) : Le w w2 := ⟨Nat.le_trans a.n b.n, fun i hi => (b.k i (Nat.lt_of_lt_of_le hi a.n)).trans (a.k i hi), a.F.trans b.F⟩
theorem PostS.le {w' : Wd} {o : Out} (l : Le w w') (h : PostS K cl e W w Z o) : PostS K cl e W w' Z o := by
  cases o with
  | next ρ S => exact fun w2 σ2 H2 l2 f2 => h w2 σ2 H2 (l.trans l2) f2
  | ret d S => exact fun w2 v2 H2 l2 f2 => h w2 v2 H2 (l.trans l2) f2
  | brk ρ S => exact fun w2 σ2 H2 l2 f2 => h w2 σ2 H2 (l.trans l2) f2
  | cont ρ S => exact fun w2 σ2 H2 l2 f2 => h w2 σ2 H2 (l.trans l2) f2
  | err c ρ S => exact fun w2 σ2 H2 l2 f2 => h w2 σ2 H2 (l.trans l2) f2
  | bad => exact h
theorem Fs.on {w' : Wd} {H' : Hp} {S' : Store} (f : Fs K cl e σ H w ρ S) (x : Ext w H w' H') (o : Ok K cl w' S' H') : Fs K cl e σ H' w' ρ S' := ⟨f.ext.trans x, o, f.env.mono x, f.fr⟩
theorem PostS.expr {α β : Type} {Rl : Wd → β → α → Prop} {r : Res α} {k : α → Store → Out} {Q : β → Hp → Prop} (h : PostS K cl e W w Z (Out.of r ρ k)) (f : Fs K cl e σ H w ρ S)
    (hk : ∀ d S1 w1 v H1, Ext w H w1 H1 → Fs K cl e σ H1 w1 ρ S1 → Rl w1 v d → PostS K cl e W w1 Z (k d S1) → Q v H1) : Post K cl W σ Rl w H r Q := by
  cases r with
  | ok d S1 => exact fun w1 v H1 e1 o1 r1 => hk d S1 w1 v H1 e1 (f.on e1 o1) r1 (PostS.le e1.le h)
  | err c S1 => exact fun w1 H1 e1 o1 => h w1 σ H1 e1.le (f.on e1 o1)
  | bad => exact h
theorem Fs.tG {α β : Type} {Rl : Wd → β → α → Prop} {f : Env → Store → Res α} {Q : β → Hp → Prop} (x : Fs K cl e σ H w ρ S) (p : Post K cl W σ Rl w H (f ρ S) Q) : BW.tG K cl W Rl f σ H Q := BW.tG.at x.ok x.env p
/-- a slot takes a value -/
theorem Fs.set {i : Nat} {v : V} {d : D} (f : Fs K cl e σ H w ρ S) (r : R K w v d) : Fs K cl e (σ.set i (some v)) H w (ρ.set i (some (.dat d))) S := by
  refine ⟨f.ext, f.ok, ⟨by simp [f.env.len], fun j s hs => ?_, fun j l s t u hjl hs ht os ot hj hl => ?_⟩, fun j s a hs os hj => ?_⟩
  · by_cases e : j = i
    · subst e
      have hj : j < ρ.length := by
        have := (List.getElem?_eq_some_iff.mp hs).1
        simpa using this
      rw [List.getElem?_set_self hj] at hs
      cases hs
      exact ⟨v, by rw [List.getElem?_set_self (by rw [f.env.len]; exact hj)], r⟩
    · rw [List.getElem?_set_ne (Ne.symm e)] at hs ⊢
      exact f.env.slot j s hs
  · by_cases e : j = i
    · subst e
      by_cases hj : j < ρ.length
      · rw [List.getElem?_set_self hj] at hs; cases hs; cases os
      · rw [List.getElem?_eq_none (by simpa using Nat.le_of_not_lt hj)] at hs; cases hs
    · by_cases e2 : l = i
      · subst e2
        by_cases hj : l < ρ.length
        · rw [List.getElem?_set_self hj] at ht; cases ht; cases ot
        · rw [List.getElem?_eq_none (by simpa using Nat.le_of_not_lt hj)] at ht; cases ht
      · rw [List.getElem?_set_ne (Ne.symm e)] at hs hj
        rw [List.getElem?_set_ne (Ne.symm e2)] at ht hl
        exact f.env.sep j l s t u hjl hs ht os ot hj hl
  · by_cases e : j = i
    · subst e
      by_cases hj' : j < ρ.length
      · rw [List.getElem?_set_self hj'] at hs; cases hs; cases os
      · rw [List.getElem?_eq_none (by simpa using Nat.le_of_not_lt hj')] at hs; cases hs
    · rw [List.getElem?_set_ne (Ne.symm e)] at hs hj
      exact f.fr j s a hs os hj
/-- .. a new own object -/
theorem Fs.setOwn {i : Nat} {a : Addr} {s : Slot} (f : Fs K cl e σ H w ρ S) (so : s.isOwn = true) (ok : SlotOk K w H s (.ref a)) (h0 : e.H a = none) (sep : ∀ j t, ρ[j]? = some (some t) → t.isOwn = true → j ≠ i → σ[j]? ≠ some (some (.ref a))) :
    Fs K cl e (σ.set i (some (.ref a))) H w (ρ.set i (some s)) S := by
  refine ⟨f.ext, f.ok, ⟨by simp [f.env.len], fun j t hs => ?_, fun j l t t' u hjl hs ht os ot hj hl => ?_⟩, fun j t b hs os hj => ?_⟩
  · by_cases e : j = i
    · subst e
      have hj : j < ρ.length := by
        have := (List.getElem?_eq_some_iff.mp hs).1
        simpa using this
      rw [List.getElem?_set_self hj] at hs
      cases hs
      exact ⟨_, by rw [List.getElem?_set_self (by rw [f.env.len]; exact hj)], ok⟩
    · rw [List.getElem?_set_ne (Ne.symm e)] at hs ⊢
      exact f.env.slot j t hs
  · by_cases e : j = i
    · subst e
      have hl' : σ[l]? = some (some u) := by rw [List.getElem?_set_ne hjl] at hl; exact hl
      have ht' : ρ[l]? = some (some t') := by rw [List.getElem?_set_ne hjl] at ht; exact ht
      have hj2 : j < σ.length := by
        have := (List.getElem?_eq_some_iff.mp hj).1
        simpa using this
      rw [List.getElem?_set_self hj2] at hj
      cases hj
      exact sep l t' ht' ot (Ne.symm hjl) hl'
    · by_cases e2 : l = i
      · subst e2
        have hl' : σ[j]? = some (some u) := by rw [List.getElem?_set_ne (Ne.symm hjl)] at hj; exact hj
        have ht' : ρ[j]? = some (some t) := by rw [List.getElem?_set_ne (Ne.symm hjl)] at hs; exact hs
        have hj2 : l < σ.length := by
          have := (List.getElem?_eq_some_iff.mp hl).1
          simpa using this
        rw [List.getElem?_set_self hj2] at hl
        cases hl
        exact sep j t ht' os hjl hl'
      · rw [List.getElem?_set_ne (Ne.symm e)] at hs hj
        rw [List.getElem?_set_ne (Ne.symm e2)] at ht hl
        exact f.env.sep j l t t' u hjl hs ht os ot hj hl
  · by_cases e' : j = i
    · subst e'
      have hj2 : j < σ.length := by
        have := (List.getElem?_eq_some_iff.mp hj).1
        simpa using this
      rw [List.getElem?_set_self hj2] at hj
      cases hj
      exact h0
    · rw [List.getElem?_set_ne (Ne.symm e')] at hs hj
      exact f.fr j t b hs os hj
end
section
variable {X : Cx} {cl : Str → Addr} {e : Pt} {W : WX} {st : Stmt} {rest : List Stmt} {pos : Pos}
def sNil : Stm := fun ρ S => .next ρ S
def sSeq (g h : Stm) : Stm := fun ρ S => match g ρ S with
  | .next ρ1 S1 => h ρ1 S1
  | o => o
theorem dss_nil : DSs X cl e W [] sNil := PSs.imp pss_nil fun Z σ H ⟨w, ρ, S, f, p⟩ => p w σ H (Le.refl _) f
theorem dss_cons {g h : Stm} (h1 : DS X cl e W st g) (h2 : DSs X cl e W rest h) : DSs X cl e W (st :: rest) (sSeq g h) := by
  refine PSs.imp (pss_cons h1 h2) fun Z σ H ⟨w, ρ, S, f, p⟩ => ⟨w, ρ, S, f, ?_⟩
  unfold sSeq at p
  cases hg : g ρ S with
  | next ρ1 S1 =>
    rw [hg] at p
    exact fun w1 σ1 H1 l1 f1 => ⟨w1, ρ1, S1, f1, PostS.le l1 p⟩
  | ret d S1 => rw [hg] at p; exact p
  | brk ρ1 S1 => rw [hg] at p; exact p
  | cont ρ1 S1 => rw [hg] at p; exact p
  | err c ρ1 S1 => rw [hg] at p; exact p
  | bad => rw [hg] at p; exact p
theorem dss_one {g : Stm} (h1 : DS X cl e W st g) : DSs X cl e W [st] g := pss_one h1
theorem ds_pass : DS X cl e W (.Pass pos) sNil := PS.imp ps_pass fun Z σ H ⟨w, ρ, S, f, p⟩ => p w σ H (Le.refl _) f
def sBreak : Stm := fun ρ S => .brk ρ S
def sCont : Stm := fun ρ S => .cont ρ S
theorem ds_break : DS X cl e W (.Break pos) sBreak := PS.imp ps_break fun Z σ H ⟨w, ρ, S, f, p⟩ => p w σ H (Le.refl _) f
theorem ds_continue : DS X cl e W (.Continue pos) sCont := PS.imp ps_continue fun Z σ H ⟨w, ρ, S, f, p⟩ => p w σ H (Le.refl _) f
def sExpr (f : Env → Store → Res BW.D) : Stm := fun ρ S => Out.of (f ρ S) ρ fun _ S1 => .next ρ S1
theorem ds_expr {ex : Expr} {f : Env → Store → Res BW.D} (h : DE X cl W ex f) (hs : swapsWith ex none pos.line X.env = pure false := by rfl) : DS X cl e W (.Expr ex pos) (sExpr f) := by
  refine PS.imp (ps_expr h hs) fun Z σ H ⟨w, ρ, S, fs, p⟩ => fs.tG (PostS.expr p fs fun d S1 w1 v H1 _ f1 r1 p1 => p1 w1 σ H1 (Le.refl _) f1)
def sRet (f : Env → Store → Res BW.D) : Stm := fun ρ S => Out.of (f ρ S) ρ fun d S1 => .ret d S1
theorem ds_ret {ex : Expr} {f : Env → Store → Res BW.D} (h : DE X cl W ex f) : DS X cl e W (.Return (some ex) pos) (sRet f) :=
  PS.imp (ps_ret h) fun Z σ H ⟨w, ρ, S, fs, p⟩ => fs.tG (PostS.expr p fs fun d S1 w1 v H1 _ f1 r1 p1 => p1 w1 v H1 (Le.refl _) f1.ext f1.ok r1)
def sIf (t : Env → Store → Res Bool) (g h : Stm) : Stm := fun ρ S => Out.of (t ρ S) ρ fun b S1 => if b = true then g ρ S1 else h ρ S1
theorem ds_if {c : Expr} {a b : List Stmt} {t : Env → Store → Res Bool} {g h : Stm} (hc : DT X cl W c t) (ha : DSs X cl e W a g) (hb : DSs X cl e W b h) : DS X cl e W (.If c a b pos) (sIf t g h) := by
  refine PS.imp (ps_if hc ha hb) fun Z σ H ⟨w, ρ, S, fs, p⟩ => fs.tG (PostS.expr p fs fun d S1 w1 v H1 _ f1 r1 p1 => ?_)
  cases (show v = d from r1)
  cases d with
  | true => rw [if_pos rfl] at p1 ⊢; exact ⟨w1, ρ, S1, f1, p1⟩
  | false => rw [if_neg Bool.false_ne_true] at p1 ⊢; exact ⟨w1, ρ, S1, f1, p1⟩
def sSet (i : Nat) (f : Env → Store → Res BW.D) : Stm := fun ρ S => Out.of (f ρ S) ρ fun d S1 => .next (ρ.set i (some (.dat d))) S1
theorem ds_set {i : Nat} {x : Str} {ex : Expr} {pos' : Pos} {f : Env → Store → Res BW.D} (hN : X.N.Nodup) (hi : X.N[i]? = some x) (hx : Loc X.env.scope x) (h : DE X cl W ex f) (hs : swapsWith ex (some (.Name x pos')) pos.line X.env = pure false := by rfl)
    (hf : X.fn x = true ∨ X.env.scope.names.lookup x = some .local := by first | exact .inl rfl | exact .inr rfl | assumption) : DS X cl e W (.Assign [.Name x pos'] ex pos) (sSet i f) :=
  PS.imp (ps_set hN hi hx h hs hf) fun Z σ H ⟨w, ρ, S, fs, p⟩ => fs.tG (PostS.expr p fs fun d S1 w1 v H1 _ f1 r1 p1 => p1 w1 _ H1 (Le.refl _) (f1.set r1))

/-! ### targets -/
def Tgt := BW.D → Env → Option Env
abbrev Tgts := List BW.D → Env → Option Env
def tgName (i : Nat) : Tgt := fun d ρ => some (ρ.set i (some (.dat d)))
def tgNil : Tgts := fun ds ρ => match ds with
  | [] => some ρ
  | _ => none
def tgCons (t : Tgt) (u : Tgts) : Tgts := fun ds ρ => match ds with
  | d :: r => (t d ρ).bind (u r)
  | _ => none
def tgTup (n : Nat) (u : Tgts) : Tgt := fun d ρ => match d with
  | .tup l => if l.length = n then u l ρ else none
  | _ => none
/-- a target keeps the state -/
def gT (K : PySem.W.Frag) (cl : Str → Addr) (e : Pt) (t : Tgt) : TG := fun v σ H Q => ∃ w ρ S d ρ', Fs K cl e σ H w ρ S ∧ R K w v d ∧ t d ρ = some ρ' ∧ ∀ σ', Fs K cl e σ' H w ρ' S → Q σ' H
def gTs (K : PySem.W.Frag) (cl : Str → Addr) (e : Pt) (t : Tgts) : TGs := fun vs σ H Q => ∃ w ρ S ds ρ', Fs K cl e σ H w ρ S ∧ RA K w vs ds ∧ t ds ρ = some ρ' ∧ ∀ σ', Fs K cl e σ' H w ρ' S → Q σ' H
theorem PG.imp {tg : Expr} {t t' : TG} (h : PG X tg t) (i : ∀ v σ H Q, t' v σ H Q → t v σ H Q) : PG X tg t' := ⟨fun pins s σ H v u Q I r q => h.run pins s σ H v u Q I r (i v σ H Q q)⟩
theorem PGs.imp {tg : List Expr} {t t' : TGs} (h : PGs X tg t) (i : ∀ v σ H Q, t' v σ H Q → t v σ H Q) : PGs X tg t' := ⟨fun pins s σ H v u Q I r q => h.run pins s σ H v u Q I r (i v σ H Q q)⟩
theorem dg_name {i : Nat} {x : Str} (hN : X.N.Nodup) (hi : X.N[i]? = some x) (hx : Loc X.env.scope x) (hf : X.fn x = true ∨ X.env.scope.names.lookup x = some .local := by first | exact .inl rfl | exact .inr rfl | assumption) : PG X (.Name x pos) (gT X.K cl e (tgName i)) :=
  PG.imp (pg_name hN hi hx hf) fun v σ H Q ⟨w, ρ, S, d, ρ', f, r, ht, q⟩ => by cases ht; exact q _ (f.set r)
theorem dgs_nil : PGs X [] (gTs X.K cl e tgNil) := PGs.imp pgs_nil fun vs σ H Q ⟨w, ρ, S, ds, ρ', f, r, ht, q⟩ => by
  cases r with
  | nil => cases ht; exact ⟨rfl, q σ f⟩
  | cons => cases ht
theorem dgs_cons {ex : Expr} {es : List Expr} {t : Tgt} {u : Tgts} (h1 : PG X ex (gT X.K cl e t)) (h2 : PGs X es (gTs X.K cl e u))
    (hs : (assignEach (ex :: es) X.env).map (·.2) = assign ex X.env :: (assignEach es X.env).map (·.2) := by rfl) : PGs X (ex :: es) (gTs X.K cl e (tgCons t u)) := PGs.imp (pgs_cons h1 h2 hs) fun vs σ H Q ⟨w, ρ, S, ds, ρ', f, r, ht, q⟩ => by
  cases r with
  | nil => cases ht
  | @cons v d vs ds r rr =>
    have ht : (t d ρ).bind (u ds) = some ρ' := ht
    cases h : t d ρ with
    | none => rw [h] at ht; cases ht
    | some ρ1 =>
      rw [h] at ht
      exact ⟨v, vs, rfl, w, ρ, S, d, ρ1, f, r, h, fun σ1 f1 => ⟨w, ρ1, S, ds, ρ', f1, rr, ht, q⟩⟩
theorem dg_tup {es : List Expr} {k n : Nat} {u : Tgts} (hc : X.calm = true) (h : PGs X es (gTs X.K cl e u)) (hn : (assignEach es X.env).length = n := by rfl) (hst : (assignEach es X.env).findIdx? (·.1) = none := by rfl) :
    PG X (.Tuple es k pos) (gT X.K cl e (tgTup n u)) := PG.imp (pg_tup hc h hn hst) fun v σ H Q ⟨w, ρ, S, d, ρ', f, r, ht, q⟩ => by
  cases d <;> try (simp only [tgTup] at ht; cases ht)
  rename_i l
  simp only [tgTup] at ht
  split at ht
  · rename_i hl
    obtain ⟨a, vs, rfl, ha, ra⟩ := r.tup_inv
    exact ⟨a, vs, rfl, f.ok.sqT ha, by rw [ra.length]; exact hl, w, ρ, S, l, ρ', f, ra, ht, q⟩
  · cases ht
/-- target = e -/
def sAsg (t : Tgt) (f : Env → Store → Res BW.D) : Stm := fun ρ S => Out.of (f ρ S) ρ fun d S1 => match t d ρ with
  | some ρ' => .next ρ' S1
  | none => .bad
theorem ds_asg {tg ex : Expr} {t : Tgt} {f : Env → Store → Res BW.D} (h : DE X cl W ex f) (hg : PG X tg (gT X.K cl e t)) (hs : swapsWithSole [tg] ex pos.line X.env = pure false := by rfl) (hw : swappedStores [tg] ex X.env = pure none := by rfl)
    (h1 : (assignEach [tg] X.env).map (·.2) = [assign tg X.env] := by rfl) : DS X cl e W (.Assign [tg] ex pos) (sAsg t f) :=
  PS.imp (ps_asg h hg hs hw h1) fun Z σ H ⟨w, ρ, S, fs, p⟩ => fs.tG (PostS.expr p fs fun d S1 w1 v H1 _ f1 r1 p1 => by
    split at p1
    · rename_i ρ' ht
      exact ⟨w1, ρ, S1, d, ρ', f1, r1, ht, fun σ' f' => p1 w1 σ' H1 (Le.refl _) f'⟩
    · exact p1.elim)

/-! ### what is walked -/
def Walks (K : PySem.W.Frag) (cl : Str → Addr) (J : It) (w : Wd) (ds : List BW.D) : Prop := ∀ (i : Nat) (w1 : Wd) (S1 : Store) (H1 : Hp), Le w w1 → Ok K cl w1 S1 H1 →
  (∀ d, ds[i]? = some d → J.go i H1 ∧ ∀ x H2, J.yld i H1 x H2 → ∃ w2, Ext w1 H1 w2 H2 ∧ Ok K cl w2 S1 H2 ∧ R K w2 x d) ∧ (ds.length = i → J.stop i H1)
def tI (K : PySem.W.Frag) (cl : Str → Addr) (W : WX) (f : Env → Store → Res (List BW.D)) : TI := fun σ H Rr => ∃ w ρ S, Ok K cl w S H ∧ EnvR K w H σ ρ ∧ match f ρ S with
  | .ok ds S' => ∀ w' H' J, Ext w H w' H' → Ok K cl w' S' H' → Walks K cl J w' ds → Rr J H'
  | .err c S' => ∀ w' H', Ext w H w' H' → Ok K cl w' S' H' → W (.ref (cl c)) none σ H'
  | .bad => False
abbrev DI (X : Cx) (cl : Str → Addr) (W : WX) (tg iter : Expr) (f : Env → Store → Res (List BW.D)) : Prop := PI X tg iter (tI X.K cl W f)
theorem PI.imp {tg iter : Expr} {t t' : TI} (h : PI X tg iter t) (i : ∀ σ H Q, t' σ H Q → t σ H Q) : PI X tg iter t' := ⟨fun pins s σ H Q I q => h.run pins s σ H Q I (i σ H Q q)⟩
def forL (t : Tgt) (g : Stm) : List BW.D → Stm
  | [], ρ, S => .next ρ S
  | x :: xs, ρ, S => match t x ρ with
    | none => .bad
    | some ρ1 => match g ρ1 S with
      | .next ρ2 S2 => forL t g xs ρ2 S2
      | .cont ρ2 S2 => forL t g xs ρ2 S2
      | .brk ρ2 S2 => .next ρ2 S2
      | .ret d S2 => .ret d S2
      | .err c ρ2 S2 => .err c ρ2 S2
      | .bad => .bad
def sFor (fi : Env → Store → Res (List BW.D)) (t : Tgt) (g : Stm) : Stm := fun ρ S => Out.of (fi ρ S) ρ fun ds S1 => forL t g ds ρ S1
theorem ds_for {tg iter : Expr} {body : List Stmt} {fi : Env → Store → Res (List BW.D)} {t : Tgt} {g : Stm} (hp : PassesOwn (model X.prog X.w) X.A X.env X.xe) (hc : X.calm = true) (hi : DI X cl W tg iter fi) (hg : PG X tg (gT X.K cl e t)) (hb : DSs X cl e W body g)
    (hs : ∀ x, foldedSetIterable iter X.env x = pure x := by intro _; rfl) : DS X cl e W (.For tg iter body [] pos) (sFor fi t g) := by
  refine PS.imp (ps_for hp hc hi hg hb hs) fun Z σ H ⟨w, ρ, S, fs, p⟩ => ⟨w, ρ, S, fs.ok, fs.env, ?_⟩
  unfold sFor at p
  cases hr : fi ρ S with
  | bad => rw [hr] at p; exact p
  | err c S1 => rw [hr] at p; exact fun w1 H1 e1 o1 => p w1 σ H1 e1.le (fs.on e1 o1)
  | ok ds S1 =>
    rw [hr] at p
    have p : PostS X.K cl e W w Z (forL t g ds ρ S1) := p
    intro w1 H1 J e1 o1 wk
    have f1 := fs.on e1 o1
    refine ⟨fun i m σ' H' => ∃ w' ρ' S', Le w1 w' ∧ Fs X.K cl e σ' H' w' ρ' S' ∧ m = ds.length - i ∧ i ≤ ds.length ∧ PostS X.K cl e W w' Z (forL t g (ds.drop i) ρ' S'), ⟨ds.length, w1, ρ, S1, Le.refl _, f1, rfl, Nat.zero_le _, PostS.le e1.le p⟩, ?_⟩
    rintro i m σ' H' ⟨w', ρ', S', l', f', rfl, hle, p'⟩
    obtain ⟨hgo, hstop⟩ := wk i w' S' H' l' f'.ok
    by_cases hi : i < ds.length
    · have hd : ds[i]? = some ds[i] := by simp [hi]
      rw [List.drop_eq_getElem_cons hi] at p'
      simp only [forL] at p'
      obtain ⟨go, yld⟩ := hgo _ hd
      refine .inr ⟨go, fun σ2 H2 => ∃ w2 ρ2 S2, Le w1 w2 ∧ Fs X.K cl e σ2 H2 w2 ρ2 S2 ∧ PostS X.K cl e W w2 Z (forL t g (ds.drop (i + 1)) ρ2 S2), fun σ2 H2 ⟨w2, ρ2, S2, l2, f2, p2⟩ => ⟨ds.length - (i + 1), by omega, w2, ρ2, S2, l2, f2, rfl, hi, p2⟩, fun x H2 y => ?_⟩
      obtain ⟨w2, e2, o2, r2⟩ := yld x H2 y
      have f2 := f'.on e2 o2
      have l2 := l'.trans e2.le
      have p2 := PostS.le e2.le p'
      cases ht : t ds[i] ρ' with
      | none => rw [ht] at p2; exact p2.elim
      | some ρ1 =>
        rw [ht] at p2
        refine ⟨w2, ρ', S', ds[i], ρ1, f2, r2, ht, fun σ3 f3 => ⟨w2, ρ1, S', f3, ?_⟩⟩
        simp only at p2
        cases hg : g ρ1 S' with
        | next ρ4 S4 =>
          rw [hg] at p2
          exact fun w4 σ4 H4 l4 f4 => ⟨w4, ρ4, S4, l2.trans l4, f4, PostS.le l4 p2⟩
        | cont ρ4 S4 =>
          rw [hg] at p2
          exact fun w4 σ4 H4 l4 f4 => ⟨w4, ρ4, S4, l2.trans l4, f4, PostS.le l4 p2⟩
        | brk ρ4 S4 => rw [hg] at p2; exact p2
        | ret d S4 => rw [hg] at p2; exact p2
        | err c ρ4 S4 => rw [hg] at p2; exact p2
        | bad => rw [hg] at p2; exact p2
    · exact .inl ⟨hstop (by omega), by
        rw [List.drop_eq_nil_of_le (Nat.le_of_not_lt hi)] at p'
        exact p' w' σ' H' (Le.refl _) f'⟩
end
end BW
namespace BW
open PySem PySem.Spec PyProof.Rows L2
/-! ### enumerate(t), t a tuple -/
set_option maxHeartbeats 1000000 in
theorem meets_enum1 {v : Value} {o : Obj} {H : Heap → Prop} (B : Begins v o H) :
    Meets (Builtin.«enumerate.__new__» ⟨[.type "enumerate", v], []⟩) (fun _ R s => H s.heap ∧
      R (.ok (.ret (.ref (s.heap.push o).objs.size))) { s with heap := (s.heap.push o).push { cls := .type "enumerate", data := .fields #[.none, .bool false, .ref s.heap.objs.size, rawInt 0, .none, .none] } }) :=
  .of_wp fun prog w A R s h => by
    obtain ⟨hp, g, d, tk, os⟩ := s; obtain ⟨h1, h⟩ := h
    have hsub := sub_enumerate
    have q1 : ∀ {A' : Around} {E : Value → Shared → Prop} {Q : Value → Shared → Prop}, Q (.ref hp.objs.size) ⟨hp.push o, g, d, tk, os⟩ → wpAny (model prog w) A' (pyIter v) Q E ⟨hp, g, d, tk, os⟩ :=
      fun q => B.iter prog w _ _ ⟨hp, g, d, tk, os⟩ _ h1 q
    wp_walk using q1
    refine wpAny_stack_any fun st => wpAny_pure ?_
    split
    · rename_i c _ _ _ _ _
      cases (c == Value.type "enumerate")
      · wp_walk using q1
        exact ⟨_, rfl, h⟩
      · wp_walk using q1
        exact ⟨_, rfl, h⟩
    · wp_walk using q1
      exact ⟨_, rfl, h⟩
theorem enum_begins1 {prog : Program} {w : World} {A : Around} {E : Value → Shared → Prop} {s : Shared} {v : Value} {o : Obj} {H : Heap → Prop} {Q : Value → Shared → Prop} (B : Begins v o H) (h1 : H s.heap)
    (h : ∀ h', IsEnum h' (s.heap.objs.size + 1) s.heap.objs.size 0 .none → h'.get? s.heap.objs.size = some o → h'.objs.size = s.heap.objs.size + 2 →
      (∀ b o, s.heap.get? b = some o → h'.get? b = some o) → Q (.ref (s.heap.objs.size + 1)) { s with heap := h' }) :
    wpAny (model prog w) A (call (.type "enumerate") [v]) Q E s := by
  refine callType_new F.called_enumerate (by decide) (F.typeCall_enumerate_1 _) (F.newCall_enumerate_1 _) (fun obj => F.args_object_init_2 obj _) F.entry_enumerate_new
    (meets_enum1 B) ⟨h1, ?_⟩
  have hz : (s.heap.push o).objs.size = s.heap.objs.size + 1 := Heap.size_push ..
  show _ ∧ _
  rw [hz]
  have he : IsEnum ((s.heap.push o).push { cls := .type "enumerate", data := .fields #[.none, .bool false, .ref s.heap.objs.size, rawInt 0, .none, .none] }) (s.heap.objs.size + 1) s.heap.objs.size 0 .none := by
    have := Heap.get?_push_size (s.heap.push o) (o := { cls := .type "enumerate", data := .fields #[.none, .bool false, .ref s.heap.objs.size, rawInt 0, .none, .none] }) rfl
    rw [hz] at this; exact this
  refine ⟨⟨_, he, rfl⟩, h _ he (Heap.get?_push_of_some _ (Heap.get?_push_size _ B.free)) (by rw [Heap.size_push, hz]) fun b o x => Heap.get?_push_of_some _ (Heap.get?_push_of_some _ x)⟩
def IteT (K : PySem.W.Frag) (a : Addr) : It :=
  ⟨fun i H => ∃ (xs : List V) (x : V), SqT K H a xs ∧ xs[i]? = some x, fun i H v H' => ∃ T x, v = .ref T ∧ H T = none ∧ H' = upd H T (.tup [.int (i : Nat), x]) ∧ ∀ xs, SqT K H a xs → xs[i]? = some x, fun i H => ∃ xs : List V, SqT K H a xs ∧ xs.length = i⟩
theorem turn_enumT {P : Program} {w : World} {K : PySem.W.Frag} {elts : List Expr} {kk : Nat} {tpos : Pos} (a e it : Addr) :
    Turn P w K (.Tuple elts kk tpos) (IteT K a) [e, it] e (fun i h => (∃ old, IsEnum h e it ((i : Nat) : Int) old) ∧ h.IsTupleIter it a i ∧ e ≠ it ∧ a ≠ it ∧ e ≠ a) where
  mem := by simp
  obj := fun i h st b hb => by
    obtain ⟨⟨old, he⟩, ⟨o, ho, hc, hd⟩, _⟩ := st
    have e' : b = e ∨ b = it := by simpa using hb
    rcases e' with z | z
    · rw [z]; exact ⟨_, he, fun v q => nomatch q⟩
    · rw [z]; exact ⟨o, ho, fun v q => by rw [hd] at q; cases q⟩
  keep := fun i h h' st k => let ⟨⟨old, he⟩, hi, hne⟩ := st; ⟨⟨old, k e (by simp) _ he⟩, hi.at fun o q => k it (by simp) o q, hne⟩
  item := by
    intro X hP hw hK hc i pins s σ H E I hf st hg
    subst hP hw hK
    obtain ⟨⟨old, he⟩, hit, hne, hai, hea⟩ := st
    obtain ⟨xs, x, hq, hx⟩ := hg
    obtain ⟨its, rv, p, hz⟩ := I.tuple hq
    obtain ⟨u, hu, ru⟩ := rv.get hx
    have hel : e < s.heap.objs.size := Heap.lt_size he
    have hil : it < s.heap.objs.size := by obtain ⟨_, q, _⟩ := hit; exact Heap.lt_size q
    have hdr : i < its.toArray.size := by
      have := (List.getElem?_eq_some_iff.mp hu).1
      simpa using this
    refine wpAny_pyNext_enum_itemD (Draws.tuple (A := X.A.in1) (show X.A.in1.handled = none from I.ok.hd hc) it a hai its.toArray) he ⟨hit, p⟩ hdr hne (by simp [hne, hea]) fun y h' tk hy ho hst' hT hsz hk => ?_
    have ey : y = u := by
      have hy : its.toArray[i]? = some y := hy
      have : its[i]? = some y := by simpa using hy
      rw [hu] at this; exact (Option.some.inj this).symm
    subst ey
    refine ⟨_, rfl, wpAny_letOwnedTupleGo_enum (s := { s with heap := h', toks := tk + 1 }) ho fun h'' he' sb => ?_⟩
    have hT2 : h''.get? s.heap.objs.size = some { cls := .type "tuple", data := .seq #[.int i tk, y] } := (sb.2 _ (Nat.ne_of_gt hel)).trans hT
    have new : ObjOk X.prog X.w (upd H s.heap.objs.size (.tup [.int (i : Nat), x])) h'' s.heap.objs.size (.tup [.int (i : Nat), x]) :=
      ⟨by show 2 ≤ sizeLine; decide, [.int i tk, y], .cons ⟨_, rfl⟩ (.cons ru .nil), ⟨_, hT2, rfl, _, rfl⟩⟩
    have I1 : Inv X pins σ (upd H s.heap.objs.size (.tup [.int (i : Nat), x])) { s with heap := h'', toks := tk + 1 } :=
      I.turnedNew (ch := [e, it]) (fun b ob hb q => (sb.2 b (fun z => hb (by simp [z]))).trans (hk b ob (fun z => hb (by simp [z])) (fun z => hb (by simp [z])) q)) hf (Nat.le_refl _) new
    refine ⟨.ref s.heap.objs.size, _, I1, rfl, ⟨_, x, rfl, I.hok.fresh (Nat.le_refl _), rfl, fun ys hy => by rw [I.tuple_inj hy hq]; exact hx⟩, ⟨⟨y, ?_⟩, hst'.1.at fun o q => (sb.2 it (Ne.symm hne)).trans q, hne, hai, hea⟩, fun b hb => ?_⟩
    · have e1 : ((i + 1 : Nat) : Int) = (i : Int) + 1 := by omega
      rw [e1]; exact he'
    · have hb' : b < s.heap.objs.size := by
        have e' : b = e ∨ b = it := by simpa using hb
        rcases e' with z | z
        · rw [z]; exact hel
        · rw [z]; exact hil
      rw [upd_ne (Nat.ne_of_lt hb')]
      exact (hf b hb).1
  done := by
    intro X hP hw hK hc i pins s σ H E I hf st hg
    subst hP hw hK
    obtain ⟨⟨old, he⟩, hit, hne, hai, hea⟩ := st
    obtain ⟨xs, hq, hx⟩ := hg
    obtain ⟨its, rv, p, hz⟩ := I.tuple hq
    obtain ⟨f0, f1, f2, f3, f4, f5⟩ := hf it (by simp)
    have hl := rv.length
    have hs : its.toArray.size = i := by simp; omega
    exact wpAny_pyNext_enum_endD (n := its.toArray.size) (Draws.tuple (A := X.A.in1) (show X.A.in1.handled = none from I.ok.hd hc) it a hai its.toArray) he ⟨by rw [hs]; exact hit, p⟩ fun h' eb => ⟨rfl, I.turned (t' := s.toks) (fun b o hb q => eb b o hb q) f0 f1 f3 f4 f5⟩
  self := fun A i s Q E st h => let ⟨⟨_, he⟩, _⟩ := st; wpAny_pyIter_enum he h
def iEnumT (K : PySem.W.Frag) (ta : TA) : TI := fun σ H R => ta σ H fun vs H1 => ∃ a xs, vs = [.ref a] ∧ SqT K H1 a xs ∧ R (IteT K a) H1
theorem pi_enumT {X : Cx} {e : Expr} {ta : TA} {p pos tpos : Pos} {elts : List Expr} {kk : Nat} (hg : Gl X "enumerate") (hm : X.mg "enumerate" = none) (ha : PA X [e] ta) (hs : starEach [e] X.env = [(false, eval e X.env)] := by rfl) :
    PI X (.Tuple elts kk tpos) (.Call (.Name "enumerate" p) [e] [] pos) (iEnumT X.K ta) := by
  refine ⟨fun pins s σ H R I h => ?_⟩
  refine Call_ (ld_blt I hg hm boot_enumerate (PyProof.Rows.callWith_type1 (thn (ha.run pos pins s σ H _ I h) fun us s1 ⟨vs, H1, I1, r1, q1⟩ => ?_) hs rfl))
  obtain ⟨a, xs, ex, hq, q⟩ := q1
  subst ex
  cases r1 with
  | cons r rr =>
    cases rr
    cases r
    obtain ⟨its, rv, p', hz⟩ := I1.tuple hq
    have hal : a < s1.heap.objs.size := p'.lt
    refine enum_begins1 (begins_tuple a its.toArray) p' fun h' he hit hsz hk => wpAny_pyIter_enum he ?_
    have I2 : Inv X pins σ H1 { s1 with heap := h' } := I1.kept (t' := s1.toks) hk
    refine ⟨s1.heap.objs.size + 1, [s1.heap.objs.size + 1, s1.heap.objs.size], _, _, H1, rfl, I2, turn_enumT a (s1.heap.objs.size + 1) s1.heap.objs.size, ⟨⟨.none, he⟩, ⟨_, hit, rfl, rfl⟩, Nat.succ_ne_self _, Nat.ne_of_lt hal, Nat.ne_of_gt (Nat.lt_succ_of_lt hal)⟩, fun b hb => ?_, q⟩
    have e' : b = s1.heap.objs.size + 1 ∨ b = s1.heap.objs.size := by simpa using hb
    have hle : s1.heap.objs.size ≤ b := by
      rcases e' with z | z
      · rw [z]; exact Nat.le_add_right _ _
      · rw [z]; exact Nat.le_refl _
    exact I1.fpOk hle (I1.hok.fresh hle)
end BW
namespace BW
open PySem L2
section
variable {K : PySem.W.Frag} {cl : Str → Addr} {W : WX} {σ : L2.St} {w w' : Wd} {S : Store} {H H' : Hp} {ρ : Env}
/-! ### hidden objects -/
theorem Ext.mut {a : Addr} {o : HO} (x : Ext w H w' H') (h : H a = none) : Ext w H w' (upd H' a o) := by
  refine ⟨x.n, x.k, x.F, fun b u hb hk => ?_, fun b u hb => ?_, x.newF, x.newK⟩
  · rw [upd_ne (ne_of_none hb h)]; exact x.keep b u hb hk
  · rw [upd_ne (ne_of_none hb h)]; exact x.there b u hb
theorem Ok.mut {a : Addr} {o : HO} (k : Ok K cl w S H) (h : Hid w a) : Ok K cl w S (upd H a o) := by
  refine ⟨k.len, fun b u hb => ?_, fun i c hc => ?_, k.inj⟩
  · have ne : b ≠ a := by intro e; subst e; rw [h.nF] at hb; cases hb
    rw [upd_ne ne]; exact k.sub b u hb
  · obtain ⟨h1, h2⟩ := k.cell i c hc
    have hi : i < w.n := by rw [k.len]; exact (List.getElem?_eq_some_iff.mp hc).1
    exact ⟨h1, CellOk.mono ⟨Nat.le_refl _, fun _ _ => rfl, Same.refl _⟩ (fun v hv => by rw [upd_ne (h.nK i hi)]; exact hv) h2⟩
theorem Ok.hid (k : Ok K cl w S H) {a : Addr} (h : H a = none) : Hid w a := by
  refine ⟨?_, fun i hi e => ?_⟩
  · cases q : w.F a with
    | none => rfl
    | some u => rw [k.sub a u q] at h; cases h
  · have hi' : i < S.length := by rw [← k.len]; exact hi
    obtain ⟨_, h2⟩ := k.cell i S[i] (by simp [hi'])
    obtain ⟨u, hu⟩ := h2.there
    rw [e, h] at hu; cases hu
theorem Ok.freeze {a : Addr} {o : HO} (k : Ok K cl w S H) (h : Hid w a) (ha : H a = some o) : Ok K cl (w.lay a o) S H := by
  have le : Le w (w.lay a o) := ⟨Nat.le_refl _, fun _ _ => rfl, fun b u hb => by
    show upd w.F a o b = some u
    rw [upd_ne (ne_of_none hb h.nF)]; exact hb⟩
  refine ⟨k.len, fun b u hb => ?_, fun i c hc => ?_, k.inj⟩
  · have hb : upd w.F a o b = some u := hb
    by_cases e : b = a
    · subst e; rw [upd_same] at hb; cases hb; exact ha
    · rw [upd_ne e] at hb; exact k.sub b u hb
  · obtain ⟨h1, h2⟩ := k.cell i c hc
    have hi : i < w.n := by rw [k.len]; exact (List.getElem?_eq_some_iff.mp hc).1
    refine ⟨?_, CellOk.mono le (fun v hv => hv) h2⟩
    show upd w.F a o (w.k i) = none
    rw [upd_ne (h.nK i hi)]; exact h1
theorem Le.lay {a : Addr} {o : HO} (h : w.F a = none) : Le w (w.lay a o) := ⟨Nat.le_refl _, fun _ _ => rfl, fun b u hb => by
    show upd w.F a o b = some u
    rw [upd_ne (ne_of_none hb h)]; exact hb⟩
theorem Ext.freeze {a : Addr} {o : HO} (x : Ext w H w' H') (h : w'.F a = none) (ha : H a = none) : Ext w H (w'.lay a o) H' := by
  refine ⟨x.n, x.k, x.F.trans (Le.lay h).F, x.keep, x.there, fun b u hb => ?_, x.newK⟩
  have hb : upd w'.F a o b = some u := hb
  by_cases e : b = a
  · subst e; exact .inr ha
  · rw [upd_ne e] at hb; exact x.newF b u hb

/-! ### slots -/
theorem EnvR.setD {i : Nat} {v : V} {d : D} (f : EnvR K w H σ ρ) (r : R K w v d) : EnvR K w H (σ.set i (some v)) (ρ.set i (some (.dat d))) := by
  refine ⟨by simp [f.len], fun j s hs => ?_, fun j l s t u hjl hs ht os ot hj hl => ?_⟩
  · by_cases e : j = i
    · subst e
      have hj : j < ρ.length := by
        have := (List.getElem?_eq_some_iff.mp hs).1
        simpa using this
      rw [List.getElem?_set_self hj] at hs
      cases hs
      exact ⟨v, by rw [List.getElem?_set_self (by rw [f.len]; exact hj)], r⟩
    · rw [List.getElem?_set_ne (Ne.symm e)] at hs ⊢
      exact f.slot j s hs
  · by_cases e : j = i
    · subst e
      by_cases hj : j < ρ.length
      · rw [List.getElem?_set_self hj] at hs; cases hs; cases os
      · rw [List.getElem?_eq_none (by simpa using Nat.le_of_not_lt hj)] at hs; cases hs
    · by_cases e2 : l = i
      · subst e2
        by_cases hj : l < ρ.length
        · rw [List.getElem?_set_self hj] at ht; cases ht; cases ot
        · rw [List.getElem?_eq_none (by simpa using Nat.le_of_not_lt hj)] at ht; cases ht
      · rw [List.getElem?_set_ne (Ne.symm e)] at hs hj
        rw [List.getElem?_set_ne (Ne.symm e2)] at ht hl
        exact f.sep j l s t u hjl hs ht os ot hj hl
theorem EnvR.setN {i : Nat} (f : EnvR K w H σ ρ) : EnvR K w H (σ.set i none) (ρ.set i none) := by
  have ne : ∀ {j : Nat} {s : Slot}, (ρ.set i none)[j]? = some (some s) → j ≠ i ∧ ρ[j]? = some (some s) := fun {j s} hs => by
    by_cases e : j = i
    · subst e
      by_cases hj : j < ρ.length
      · rw [List.getElem?_set_self hj] at hs; cases hs
      · rw [List.getElem?_eq_none (by simpa using Nat.le_of_not_lt hj)] at hs; cases hs
    · rw [List.getElem?_set_ne (Ne.symm e)] at hs; exact ⟨e, hs⟩
  refine ⟨by simp [f.len], fun j s hs => ?_, fun j l s t u hjl hs ht os ot hj hl => ?_⟩
  · obtain ⟨e, hs⟩ := ne hs
    rw [List.getElem?_set_ne (Ne.symm e)]
    exact f.slot j s hs
  · obtain ⟨e, hs⟩ := ne hs
    obtain ⟨e2, ht⟩ := ne ht
    rw [List.getElem?_set_ne (Ne.symm e)] at hj
    rw [List.getElem?_set_ne (Ne.symm e2)] at hl
    exact f.sep j l s t u hjl hs ht os ot hj hl
def wipeE (ρ : Env) : List Nat → Env
  | [] => ρ
  | v :: vs => (wipeE ρ vs).set v none
theorem EnvR.wipe (f : EnvR K w H σ ρ) : ∀ vs : List Nat, EnvR K w H (L2.wipe σ vs) (wipeE ρ vs)
  | [] => f
  | v :: vs => (EnvR.wipe f vs).setN
theorem wipe_get (σ : L2.St) : ∀ (vs : List Nat) (i : Nat), (L2.wipe σ vs)[i]? = if i ∈ vs ∧ i < σ.length then some none else σ[i]?
  | [], i => by simp [L2.wipe]
  | v :: vs, i => by
    unfold L2.wipe
    by_cases e : i = v
    · subst e
      by_cases hi : i < σ.length
      · rw [List.getElem?_set_self (by rw [wipe_length]; exact hi), if_pos ⟨by simp, hi⟩]
      · rw [if_neg (fun h => hi h.2), List.getElem?_eq_none (by rw [List.length_set, wipe_length]; exact Nat.le_of_not_lt hi), List.getElem?_eq_none (Nat.le_of_not_lt hi)]
    · rw [List.getElem?_set_ne (Ne.symm e), wipe_get σ vs i]
      simp [e]
theorem wipe_same {σ σ2 : L2.St} {vs : List Nat} (hl : σ2.length = σ.length) (h : ∀ i, i ∉ vs → σ2[i]? = (L2.wipe σ vs)[i]?) : L2.wipe σ2 vs = L2.wipe σ vs := by
  refine List.ext_getElem? fun i => ?_
  rw [wipe_get, wipe_get, hl]
  by_cases hi : i ∈ vs
  · by_cases hn : i < σ.length
    · rw [if_pos ⟨hi, hn⟩, if_pos ⟨hi, hn⟩]
    · rw [if_neg (fun h => hn h.2), if_neg (fun h => hn h.2), List.getElem?_eq_none (by omega), List.getElem?_eq_none (by omega)]
  · rw [if_neg (fun h => hi h.1), if_neg (fun h => hi h.1), h i hi, wipe_get, if_neg (fun h => hi h.1)]
end

/-! ### a new list -/
section
variable (K : PySem.W.Frag) (cl : Str → Addr)
def PostL (W : WX) (σ : L2.St) (w : Wd) (H : Hp) (r : Res (List D)) (Q : VK) : Prop := match r with
  | .ok l S' => ∀ w' a vs H', Ext w H w' H' → Ok K cl w' S' H' → H a = none → H' a = some (.lst vs) → Hid w' a → RA K w' vs l → Q (.ref a) H'
  | .err c S' => ∀ w' H', Ext w H w' H' → Ok K cl w' S' H' → W (.ref (cl c)) none σ H'
  | .bad => False
def tL (W : WX) (f : Env → Store → Res (List D)) : TE := fun σ H Q => ∃ w ρ S, Ok K cl w S H ∧ EnvR K w H σ ρ ∧ PostL K cl W σ w H (f ρ S) Q
end
abbrev DL (X : Cx) (cl : Str → Addr) (W : WX) (e : Expr) (f : Env → Store → Res (List D)) : Prop := PE X e (tL X.K cl W f)
def fFrz (f : Env → Store → Res (List D)) : Env → Store → Res D := fun ρ S => (f ρ S).bind fun l S1 => .ok (.lst l) S1
theorem postL_frz {K : PySem.W.Frag} {cl : Str → Addr} {W : WX} {σ : L2.St} {w : Wd} {H : Hp} {r : Res (List D)} {Q : VK} (h : Post K cl W σ (R K) w H (r.bind fun l S1 => .ok (.lst l) S1) Q) : PostL K cl W σ w H r Q := by
  cases r with
  | ok l S => exact fun w' a vs H' x o ha h' hi ra => h _ _ _ (x.freeze hi.nF ha) (o.freeze hi h') (.lst upd_same (ra.mono (Le.lay hi.nF)))
  | err c S => exact h
  | bad => exact h
theorem DL.de {X : Cx} {cl : Str → Addr} {W : WX} {e : Expr} {f : Env → Store → Res (List D)} (h : DL X cl W e f) : DE X cl W e (fFrz f) :=
  PE.imp h fun σ H Q ⟨w, ρ, S, o, n, p⟩ => ⟨w, ρ, S, o, n, postL_frz p⟩

/-! ### sources -/
section
variable {X : Cx} {cl : Str → Addr} {W : WX} {tg iter : Expr}
theorem PI.or {t t' : TI} (h : PI X tg iter t) (h' : PI X tg iter t') : PI X tg iter (fun σ H Q => t σ H Q ∨ t' σ H Q) := ⟨fun pins s σ H Q I q => q.elim (h.run pins s σ H Q I) (h'.run pins s σ H Q I)⟩
def fItems (f : Env → Store → Res D) : Env → Store → Res (List D) := fun ρ S => (f ρ S).bind fun d S1 => match d with
  | .lst l => .ok l S1
  | .tup l => .ok l S1
  | .str x => .ok (x.cps.toList.map fun c => .str ⟨#[c]⟩) S1
  | _ => .bad
theorem walks_list {K : PySem.W.Frag} {w : Wd} {a : Addr} {vs : List V} {l : List D} (h : w.F a = some (.lst vs)) (r : RA K w vs l) : Walks K cl (Itl K a) w l := by
  intro i w1 S1 H1 le ok
  have sq : SqL K H1 a vs := ok.sqL (le.F _ _ h)
  refine ⟨fun d hd => ?_, fun hl => ⟨vs, sq, by rw [r.length]; exact Nat.le_of_eq hl⟩⟩
  obtain ⟨v, hv, rv⟩ := r.get hd
  refine ⟨⟨vs, v, sq, hv⟩, fun x H2 ⟨e, hx⟩ => ?_⟩
  subst e
  have := hx vs sq
  rw [hv] at this; cases this
  exact ⟨w1, Ext.refl _ _, ok, rv.mono le⟩
theorem walks_tup {K : PySem.W.Frag} {w : Wd} {a : Addr} {vs : List V} {l : List D} (h : SqT K w.F a vs) (r : RA K w vs l) : Walks K cl (Itt K a) w l := by
  intro i w1 S1 H1 le ok
  have sq : SqT K H1 a vs := ok.sqT (SqT.mono le.F h)
  refine ⟨fun d hd => ?_, fun hl => ⟨vs, sq, by rw [r.length]; exact Nat.le_of_eq hl⟩⟩
  obtain ⟨v, hv, rv⟩ := r.get hd
  refine ⟨⟨vs, v, sq, hv⟩, fun x H2 ⟨e, hx⟩ => ?_⟩
  subst e
  have := hx vs sq
  rw [hv] at this; cases this
  exact ⟨w1, Ext.refl _ _, ok, rv.mono le⟩
theorem walks_str {K : PySem.W.Frag} {w : Wd} (x : Str) : Walks K cl (Its x) w (x.cps.toList.map fun c => .str ⟨#[c]⟩) := by
  intro i w1 S1 H1 le ok
  refine ⟨fun d hd => ?_, fun hl => by rw [List.length_map, Array.length_toList] at hl; exact Nat.le_of_eq hl⟩
  rw [List.getElem?_map] at hd
  cases hc : x.cps.toList[i]? with
  | none => rw [hc] at hd; cases hd
  | some c =>
    rw [hc] at hd; cases hd
    have hc' : x.cps[i]? = some c := by simpa using hc
    refine ⟨(Array.getElem?_eq_some_iff.mp hc').1, fun v H2 ⟨e, c2, h2, e2⟩ => ?_⟩
    subst e e2
    rw [hc'] at h2; cases h2
    exact ⟨w1, Ext.refl _ _, ok, .str _⟩
theorem di_seq {f : Env → Store → Res D} (h : DE X cl W iter f) : DI X cl W tg iter (fItems f) := by
  refine PI.imp (PI.or (pi_list h) (PI.or (pi_tup h) (pi_str h))) fun σ H Q ⟨w, ρ, S, o, n, p⟩ => ?_
  unfold fItems at p
  cases hf : f ρ S with
  | bad => rw [hf] at p; exact p.elim
  | err c S1 =>
    rw [hf] at p
    refine .inl (tG.at o n ?_)
    rw [hf]
    exact p
  | ok d S1 =>
    rw [hf] at p
    simp only [Res.bind] at p
    cases d with
    | lst l =>
      refine .inl (tG.at o n ?_)
      rw [hf]
      intro w1 v H1 e1 o1 r1
      obtain ⟨a, vs, rfl, ha, ra⟩ := r1.lst_inv
      exact ⟨a, rfl, ⟨vs, o1.sqL ha⟩, p w1 H1 _ e1 o1 (walks_list ha ra)⟩
    | tup l =>
      refine .inr (.inl (tG.at o n ?_))
      rw [hf]
      intro w1 v H1 e1 o1 r1
      obtain ⟨a, vs, rfl, ha, ra⟩ := r1.tup_inv
      exact ⟨a, rfl, ⟨vs, o1.sqT ha⟩, p w1 H1 _ e1 o1 (walks_tup ha ra)⟩
    | str x =>
      refine .inr (.inr (tG.at o n ?_))
      rw [hf]
      intro w1 v H1 e1 o1 r1
      cases r1
      exact ⟨x, rfl, p w1 H1 _ e1 o1 (walks_str x)⟩
    | _ => exact p.elim
/-- range -/
def rngD (lo : Int) (n : Nat) : List D := (List.range n).map fun i => .int (lo + (i : Nat))
theorem walks_rng {K : PySem.W.Frag} {w : Wd} (lo : Int) (n : Nat) : Walks K cl (Itr lo n) w (rngD lo n) := by
  intro i w1 S1 H1 le ok
  refine ⟨fun d hd => ?_, fun hl => by unfold rngD at hl; rw [List.length_map, List.length_range] at hl; exact Nat.le_of_eq hl⟩
  unfold rngD at hd
  rw [List.getElem?_map] at hd
  by_cases hi : i < n
  · rw [List.getElem?_range hi] at hd
    cases hd
    exact ⟨hi, fun v H2 ⟨e, e2⟩ => by subst e e2; exact ⟨w1, Ext.refl _ _, ok, .int _⟩⟩
  · rw [List.getElem?_eq_none (by simpa using Nat.le_of_not_lt hi)] at hd
    cases hd
/-- a source that evaluates its arguments first -/
def fI (k : List D → Option (List D)) (fa : Env → Store → Res (List D)) : Env → Store → Res (List D) := fun ρ S => (fa ρ S).bind fun ds S1 => Res.of S1 (k ds)
theorem tI_args {fa : Env → Store → Res (List D)} {k : List D → Option (List D)} {σ : L2.St} {H : Hp} {Q : It → Hp → Prop} {Q1 : List V → Hp → Prop} (h : tI X.K cl W (fI k fa) σ H Q)
    (hk : ∀ ds l S1 w1 vs H1, Ok X.K cl w1 S1 H1 → RA X.K w1 vs ds → k ds = some l → (∀ J, Walks X.K cl J w1 l → Q J H1) → Q1 vs H1) : tG X.K cl W (RA X.K) fa σ H Q1 := by
  obtain ⟨w, ρ, S, o, n, p⟩ := h
  refine tG.at o n ?_
  unfold fI at p
  cases hf : fa ρ S with
  | bad => rw [hf] at p; exact p
  | err c S1 => rw [hf] at p; exact p
  | ok ds S1 =>
    rw [hf] at p
    intro w1 vs H1 e1 o1 r1
    cases hkk : k ds with
    | none => simp only [Res.bind, hkk, Res.of] at p
    | some l =>
      simp only [Res.bind, hkk, Res.of] at p
      exact hk ds l S1 w1 vs H1 o1 r1 hkk fun J wk => p w1 H1 J e1 o1 wk
def kRng1 : List D → Option (List D)
  | [.int j] => if -(2 ^ 62) ≤ j ∧ j < 2 ^ 62 then some (rngD 0 j.toNat) else none
  | _ => none
def kRng2 : List D → Option (List D)
  | [.int i, .int j] => if -(2 ^ 62) ≤ i ∧ i < 2 ^ 62 ∧ -(2 ^ 62) ≤ j ∧ j < 2 ^ 62 then some (rngD i (j - i).toNat) else none
  | _ => none
theorem ra1 {K : PySem.W.Frag} {w : Wd} {vs : List V} {d : D} (r : RA K w vs [d]) : ∃ v, vs = [v] ∧ R K w v d := by
  cases r with
  | cons r t => cases t; exact ⟨_, rfl, r⟩
theorem ra2 {K : PySem.W.Frag} {w : Wd} {vs : List V} {d e : D} (r : RA K w vs [d, e]) : ∃ v u, vs = [v, u] ∧ R K w v d ∧ R K w u e := by
  cases r with
  | cons r t =>
    obtain ⟨u, rfl, r2⟩ := ra1 t
    exact ⟨_, _, rfl, r, r2⟩
theorem di_rng1 {a : Expr} {p pos : Pos} {fa : Env → Store → Res (List D)} (hg : Gl X "range") (hm : X.mg "range" = none) (ha : DA X cl W [a] fa) (hs : starEach [a] X.env = [(false, eval a X.env)] := by rfl) : DI X cl W tg (.Call (.Name "range" p) [a] [] pos) (fI kRng1 fa) := by
  refine PI.imp (pi_range1 hg hm ha hs) fun σ H Q h => tI_args h fun ds l S1 w1 vs H1 o1 r1 hk q => ?_
  unfold kRng1 at hk
  split at hk
  · rename_i j
    obtain ⟨v, rfl, rv⟩ := ra1 r1
    cases rv
    split at hk
    · rename_i hj
      cases hk
      exact ⟨j, rfl, hj.1, hj.2, q _ (walks_rng 0 j.toNat)⟩
    · cases hk
  · cases hk
theorem di_rng2 {a b : Expr} {p pos : Pos} {fa : Env → Store → Res (List D)} (hg : Gl X "range") (hm : X.mg "range" = none) (ha : DA X cl W [a, b] fa) (hs : starEach [a, b] X.env = [(false, eval a X.env), (false, eval b X.env)] := by rfl) (hs2 : starEach [b] X.env = [(false, eval b X.env)] := by rfl) : DI X cl W tg (.Call (.Name "range" p) [a, b] [] pos) (fI kRng2 fa) := by
  refine PI.imp (pi_range2 hg hm ha hs hs2) fun σ H Q h => tI_args h fun ds l S1 w1 vs H1 o1 r1 hk q => ?_
  unfold kRng2 at hk
  split at hk
  · rename_i i j
    obtain ⟨v, u, rfl, rv, ru⟩ := ra2 r1
    cases rv; cases ru
    split at hk
    · rename_i hj
      cases hk
      exact ⟨i, j, rfl, hj, q _ (walks_rng i (j - i).toNat)⟩
    · cases hk
  · cases hk
/-- enumerate, zip -/
def enumD (l : List D) : List D := l.mapIdx fun i d => .tup [.int (i : Nat), d]
def zipD (a b : List D) : List D := List.zipWith (fun x y => .tup [x, y]) a b
def kEnum : List D → Option (List D)
  | [.lst l] => some (enumD l)
  | [.tup l] => some (enumD l)
  | _ => none
def kZip : List D → Option (List D)
  | [.lst a, .lst b] => some (zipD a b)
  | [.tup a, .tup b] => some (zipD a b)
  | _ => none
theorem walks_enumL {K : PySem.W.Frag} {w : Wd} {a : Addr} {vs : List V} {l : List D} (h : w.F a = some (.lst vs)) (r : RA K w vs l) : Walks K cl (Ite K a) w (enumD l) := by
  intro i w1 S1 H1 le ok
  have sq : SqL K H1 a vs := ok.sqL (le.F _ _ h)
  refine ⟨fun d hd => ?_, fun hl => ⟨vs, sq, by rw [r.length, ← hl]; simp [enumD]⟩⟩
  unfold enumD at hd
  rw [List.getElem?_mapIdx] at hd
  cases hc : l[i]? with
  | none => rw [hc] at hd; cases hd
  | some x =>
    rw [hc] at hd; cases hd
    obtain ⟨v, hv, rv⟩ := r.get hc
    refine ⟨⟨vs, v, sq, hv⟩, fun y H2 ⟨T, x2, e1, hT, e2, hx⟩ => ?_⟩
    subst e1 e2
    have := hx vs sq
    rw [hv] at this; cases this
    obtain ⟨e, o, rr⟩ := ok.layT hT (RA.cons (.int _) (RA.cons (rv.mono le) .nil))
    exact ⟨_, e, o, rr⟩
theorem walks_enumT {K : PySem.W.Frag} {w : Wd} {a : Addr} {vs : List V} {l : List D} (h : SqT K w.F a vs) (r : RA K w vs l) : Walks K cl (IteT K a) w (enumD l) := by
  intro i w1 S1 H1 le ok
  have sq : SqT K H1 a vs := ok.sqT (SqT.mono le.F h)
  refine ⟨fun d hd => ?_, fun hl => ⟨vs, sq, by rw [r.length, ← hl]; simp [enumD]⟩⟩
  unfold enumD at hd
  rw [List.getElem?_mapIdx] at hd
  cases hc : l[i]? with
  | none => rw [hc] at hd; cases hd
  | some x =>
    rw [hc] at hd; cases hd
    obtain ⟨v, hv, rv⟩ := r.get hc
    refine ⟨⟨vs, v, sq, hv⟩, fun y H2 ⟨T, x2, e1, hT, e2, hx⟩ => ?_⟩
    subst e1 e2
    have := hx vs sq
    rw [hv] at this; cases this
    obtain ⟨e, o, rr⟩ := ok.layT hT (RA.cons (.int _) (RA.cons (rv.mono le) .nil))
    exact ⟨_, e, o, rr⟩
theorem zip_get {a b : List D} {i : Nat} {d : D} (h : (zipD a b)[i]? = some d) : ∃ x y, a[i]? = some x ∧ b[i]? = some y ∧ d = .tup [x, y] := by
  unfold zipD at h
  rw [List.getElem?_zipWith] at h
  cases ha : a[i]? with
  | none => rw [ha] at h; cases h
  | some x =>
    cases hb : b[i]? with
    | none => rw [ha, hb] at h; cases h
    | some y => rw [ha, hb] at h; cases h; exact ⟨x, y, rfl, rfl, rfl⟩
theorem walks_zipL {K : PySem.W.Frag} {w : Wd} {a b : Addr} {vs us : List V} {l m : List D} (h : w.F a = some (.lst vs)) (r : RA K w vs l) (h2 : w.F b = some (.lst us)) (r2 : RA K w us m) : Walks K cl (Itz K a b) w (zipD l m) := by
  intro i w1 S1 H1 le ok
  have sq : SqL K H1 a vs := ok.sqL (le.F _ _ h)
  have sq2 : SqL K H1 b us := ok.sqL (le.F _ _ h2)
  refine ⟨fun d hd => ?_, fun hl => ⟨vs, us, sq, sq2, by
    rw [r.length, r2.length]
    unfold zipD at hl
    rw [List.length_zipWith] at hl
    omega⟩⟩
  obtain ⟨x, y, hx, hy, rfl⟩ := zip_get hd
  obtain ⟨v, hv, rv⟩ := r.get hx
  obtain ⟨u, hu, ru⟩ := r2.get hy
  refine ⟨⟨vs, us, v, u, sq, sq2, hv, hu⟩, fun z H2 ⟨T, x2, y2, e1, hT, e2, hx2, hy2⟩ => ?_⟩
  subst e1 e2
  have := hx2 vs sq
  rw [hv] at this; cases this
  have := hy2 us sq2
  rw [hu] at this; cases this
  obtain ⟨e, o, rr⟩ := ok.layT hT (RA.cons (rv.mono le) (RA.cons (ru.mono le) .nil))
  exact ⟨_, e, o, rr⟩
theorem walks_zipT {K : PySem.W.Frag} {w : Wd} {a b : Addr} {vs us : List V} {l m : List D} (h : SqT K w.F a vs) (r : RA K w vs l) (h2 : SqT K w.F b us) (r2 : RA K w us m) : Walks K cl (RZ.ItzT K a b) w (zipD l m) := by
  intro i w1 S1 H1 le ok
  have sq : SqT K H1 a vs := ok.sqT (SqT.mono le.F h)
  have sq2 : SqT K H1 b us := ok.sqT (SqT.mono le.F h2)
  refine ⟨fun d hd => ?_, fun hl => ⟨vs, us, sq, sq2, by
    rw [r.length, r2.length]
    unfold zipD at hl
    rw [List.length_zipWith] at hl
    omega⟩⟩
  obtain ⟨x, y, hx, hy, rfl⟩ := zip_get hd
  obtain ⟨v, hv, rv⟩ := r.get hx
  obtain ⟨u, hu, ru⟩ := r2.get hy
  refine ⟨⟨vs, us, v, u, sq, sq2, hv, hu⟩, fun z H2 ⟨T, x2, y2, e1, hT, e2, hx2, hy2⟩ => ?_⟩
  subst e1 e2
  have := hx2 vs sq
  rw [hv] at this; cases this
  have := hy2 us sq2
  rw [hu] at this; cases this
  obtain ⟨e, o, rr⟩ := ok.layT hT (RA.cons (rv.mono le) (RA.cons (ru.mono le) .nil))
  exact ⟨_, e, o, rr⟩
theorem di_enum {a : Expr} {p pos tpos : Pos} {elts : List Expr} {kk : Nat} {fa : Env → Store → Res (List D)} (hg : Gl X "enumerate") (hm : X.mg "enumerate" = none) (ha : DA X cl W [a] fa) (hs : starEach [a] X.env = [(false, eval a X.env)] := by rfl) : DI X cl W (.Tuple elts kk tpos) (.Call (.Name "enumerate" p) [a] [] pos) (fI kEnum fa) := by
  refine PI.imp (PI.or (pi_enum hg hm ha hs) (pi_enumT hg hm ha hs)) fun σ H Q h => ?_
  have key : ∀ ds, (∃ l, ds = [D.lst l]) ∨ (∀ l m, kEnum ds = some l → ds = [D.tup m] → True) := fun ds => .inr fun _ _ _ _ => trivial
  obtain ⟨w, ρ, S, o, n, p⟩ := id h
  by_cases hl : ∃ l S1, fa ρ S = .ok [.lst l] S1
  · refine .inl ?_
    obtain ⟨l, S1, hf⟩ := hl
    refine tG.at o n ?_
    rw [hf]
    intro w1 vs H1 e1 o1 r1
    simp only [fI, hf, Res.bind, kEnum, Res.of] at p
    obtain ⟨v, rfl, rv⟩ := ra1 r1
    obtain ⟨a, us, rfl, h1, h2⟩ := rv.lst_inv
    exact ⟨a, us, rfl, o1.sqL h1, p w1 H1 _ e1 o1 (walks_enumL h1 h2)⟩
  · refine .inr (tG.at o n ?_)
    cases hf : fa ρ S with
    | bad => simp only [fI, hf, Res.bind] at p
    | err c S1 => simp only [fI, hf, Res.bind] at p; exact p
    | ok ds S1 =>
      intro w1 vs H1 e1 o1 r1
      simp only [fI, hf, Res.bind] at p
      cases hk : kEnum ds with
      | none => simp only [hk, Res.of] at p
      | some z =>
        simp only [hk, Res.of] at p
        unfold kEnum at hk
        split at hk
        · exact absurd ⟨_, _, hf⟩ hl
        · cases hk
          obtain ⟨v, rfl, rv⟩ := ra1 r1
          obtain ⟨a, us, rfl, h1, h2⟩ := rv.tup_inv
          exact ⟨a, us, rfl, o1.sqT h1, p w1 H1 _ e1 o1 (walks_enumT h1 h2)⟩
        · cases hk
theorem di_zip {a b : Expr} {p pos tpos : Pos} {elts : List Expr} {kk : Nat} {fa : Env → Store → Res (List D)} (hg : Gl X "zip") (hm : X.mg "zip" = none) (ha : DA X cl W [a, b] fa) (hs : starEach [a, b] X.env = (false, eval a X.env) :: starEach [b] X.env := by rfl) (hpl : (backTo pos (starEach [b] X.env)).any (·.1) = false := by rfl) : DI X cl W (.Tuple elts kk tpos) (.Call (.Name "zip" p) [a, b] [] pos) (fI kZip fa) := by
  refine PI.imp (RZ.pi_zipA hg hm ha hs hpl) fun σ H Q h => tI_args h fun ds l S1 w1 vs H1 o1 r1 hk q => ?_
  unfold kZip at hk
  split at hk
  · cases hk
    obtain ⟨v, u, rfl, rv, ru⟩ := ra2 r1
    obtain ⟨a, xs, rfl, h1, h2⟩ := rv.lst_inv
    obtain ⟨b, ys, rfl, h3, h4⟩ := ru.lst_inv
    exact ⟨a, b, xs, ys, rfl, .inl ⟨o1.sqL h1, o1.sqL h3, q _ (walks_zipL h1 h2 h3 h4)⟩⟩
  · cases hk
    obtain ⟨v, u, rfl, rv, ru⟩ := ra2 r1
    obtain ⟨a, xs, rfl, h1, h2⟩ := rv.tup_inv
    obtain ⟨b, ys, rfl, h3, h4⟩ := ru.tup_inv
    exact ⟨a, b, xs, ys, rfl, .inr ⟨o1.sqT h1, o1.sqT h3, q _ (walks_zipT h1 h2 h3 h4)⟩⟩
  · cases hk
end
end BW
namespace BW
open PySem L2
abbrev W0 : WX := fun _ _ _ _ => False
/-! ### targets in a block -/
def gE (K : PySem.W.Frag) (cl : Str → Addr) (ks : List Nat) (t : Tgt) : TG := fun v σ H Q => ∃ w ρ S d ρ', Ok K cl w S H ∧ EnvR K w H σ ρ ∧ R K w v d ∧ t d ρ = some ρ' ∧ ∀ σ', EnvR K w H σ' ρ' → σ'.length = σ.length → (∀ i, i ∉ ks → σ'[i]? = σ[i]?) → Q σ' H
def gEs (K : PySem.W.Frag) (cl : Str → Addr) (ks : List Nat) (t : Tgts) : TGs := fun vs σ H Q => ∃ w ρ S ds ρ', Ok K cl w S H ∧ EnvR K w H σ ρ ∧ RA K w vs ds ∧ t ds ρ = some ρ' ∧ ∀ σ', EnvR K w H σ' ρ' → σ'.length = σ.length → (∀ i, i ∉ ks → σ'[i]? = σ[i]?) → Q σ' H
section
variable {X : Cx} {cl : Str → Addr} {W : WX} {ks : List Nat} {pos : Pos}
theorem eg_name {i : Nat} {x : Str} (hk : i ∈ ks) (hN : X.N.Nodup) (hi : X.N[i]? = some x) (hx : Loc X.env.scope x) (hf : X.fn x = true ∨ X.env.scope.names.lookup x = some .local := by first | exact .inl rfl | exact .inr rfl | assumption) : PG X (.Name x pos) (gE X.K cl ks (tgName i)) :=
  PG.imp (pg_name hN hi hx hf) fun v σ H Q ⟨w, ρ, S, d, ρ', o, n, r, ht, q⟩ => by
    cases ht
    exact q _ (n.setD r) (by simp) fun j hj => List.getElem?_set_ne (fun e : i = j => hj (e ▸ hk))
theorem egs_nil : PGs X [] (gEs X.K cl ks tgNil) := PGs.imp pgs_nil fun vs σ H Q ⟨w, ρ, S, ds, ρ', o, n, r, ht, q⟩ => by
  cases r with
  | nil => cases ht; exact ⟨rfl, q σ n rfl fun _ _ => rfl⟩
  | cons => cases ht
theorem egs_cons {ex : Expr} {es : List Expr} {t : Tgt} {u : Tgts} (h1 : PG X ex (gE X.K cl ks t)) (h2 : PGs X es (gEs X.K cl ks u))
    (hs : (assignEach (ex :: es) X.env).map (·.2) = assign ex X.env :: (assignEach es X.env).map (·.2) := by rfl) : PGs X (ex :: es) (gEs X.K cl ks (tgCons t u)) := PGs.imp (pgs_cons h1 h2 hs) fun vs σ H Q ⟨w, ρ, S, ds, ρ', o, n, r, ht, q⟩ => by
  cases r with
  | nil => cases ht
  | @cons v d vs ds r rr =>
    have ht : (t d ρ).bind (u ds) = some ρ' := ht
    cases h : t d ρ with
    | none => rw [h] at ht; cases ht
    | some ρ1 =>
      rw [h] at ht
      exact ⟨v, vs, rfl, w, ρ, S, d, ρ1, o, n, r, h, fun σ1 n1 l1 k1 => ⟨w, ρ1, S, ds, ρ', o, n1, rr, ht, fun σ2 n2 l2 k2 => q σ2 n2 (l2.trans l1) fun i hi => (k2 i hi).trans (k1 i hi)⟩⟩
theorem eg_tup {es : List Expr} {k n : Nat} {u : Tgts} (hc : X.calm = true) (h : PGs X es (gEs X.K cl ks u)) (hn : (assignEach es X.env).length = n := by rfl) (hst : (assignEach es X.env).findIdx? (·.1) = none := by rfl) :
    PG X (.Tuple es k pos) (gE X.K cl ks (tgTup n u)) := PG.imp (pg_tup hc h hn hst) fun v σ H Q ⟨w, ρ, S, d, ρ', o, en, r, ht, q⟩ => by
  cases d <;> try (simp only [tgTup] at ht; cases ht)
  rename_i l
  simp only [tgTup] at ht
  split at ht
  · rename_i hl
    obtain ⟨a, vs, rfl, ha, ra⟩ := r.tup_inv
    exact ⟨a, vs, rfl, o.sqT ha, by rw [ra.length]; exact hl, w, ρ, S, l, ρ', o, en, ra, ht, q⟩
  · cases ht
end
/-! ### comprehensions -/
def noErr {α : Type} : Res α → Res α
  | .ok a S => .ok a S
  | _ => .bad
def compL (t : Tgt) (ft : Env → Store → Res Bool) (fe : Env → Store → Res D) (ρ : Env) : List D → Store → List D → Res (List D)
  | [], S, acc => .ok acc S
  | x :: xs, S, acc => match t x ρ with
    | none => .bad
    | some ρ1 => (noErr (ft ρ1 S)).bind fun b S1 => if b = true then (noErr (fe ρ1 S1)).bind fun y S2 => if acc.length < LIM then compL t ft fe ρ xs S2 (acc ++ [y]) else .bad else compL t ft fe ρ xs S1 acc
def fComp (fi : Env → Store → Res (List D)) (t : Tgt) (ft : Env → Store → Res Bool) (fe : Env → Store → Res D) (vs : List Nat) : Env → Store → Res (List D) := fun ρ S => (fi ρ S).bind fun ds S1 => compL t ft fe (wipeE ρ vs) ds S1 []
def fYes : Env → Store → Res Bool := fun _ S => .ok true S
theorem PTs.imp {X : Cx} {e : List Expr} {t t' : TT} (h : PTs X e t) (i : ∀ σ H Q, t' σ H Q → t σ H Q) : PTs X e t' := ⟨fun pins s σ H Q I q => h.run pins s σ H Q I (i σ H Q q)⟩
section
variable {X : Cx} {cl : Str → Addr} {W : WX}
theorem dts_nil : PTs X [] (tG X.K cl W RB fYes) := PTs.imp pts_nil fun σ H Q ⟨w, ρ, S, o, n, p⟩ => p.here o rfl
theorem dts_one {c : Expr} {t : Env → Store → Res Bool} (h : DT X cl W c t) : PTs X [c] (tG X.K cl W RB t) := pts_one h
/-- within a block nothing is raised -/
theorem Post.in0 {K : PySem.W.Frag} {α β : Type} {Rl : Wd → β → α → Prop} {σ σ' : L2.St} {w : Wd} {H : Hp} {r : Res α} {k : α → Store → Res (List D)} {Q : β → Hp → Prop} {QL : VK} {w0 : Wd} {H0 : Hp} (e0 : Ext w0 H0 w H) (h : PostL K cl W σ w0 H0 ((noErr r).bind k) QL)
    (hk : ∀ d S1 w1 v H1, Ext w H w1 H1 → Ok K cl w1 S1 H1 → Rl w1 v d → PostL K cl W σ w0 H0 (k d S1) QL → Q v H1) : Post K cl W0 σ' Rl w H r Q := by
  cases r with
  | ok d S => exact fun w1 v H1 e1 o1 r1 => hk d S w1 v H1 e1 o1 r1 h
  | err c S => exact h.elim
  | bad => exact h
theorem tLc_of {tg iter : Expr} {own : List Nat} {ks : List Nat} {fi : Env → Store → Res (List D)} {t : Tgt} {ft : Env → Store → Res Bool} {fe : Env → Store → Res D} (hks : ∀ i ∈ ks, i ∈ own) {σ : L2.St} {H : Hp} {Q : VK} (h : tL X.K cl W (fComp fi t ft fe own) σ H Q) :
    tLc (tI X.K cl W fi) (gE X.K cl ks t) (tG X.K cl W0 RB ft) (tG X.K cl W0 (R X.K) fe) own σ H Q := by
  obtain ⟨w, ρ, S, o, n, p⟩ := h
  refine ⟨w, ρ, S, o, n, ?_⟩
  unfold fComp at p
  cases hf : fi ρ S with
  | bad => rw [hf] at p; exact p
  | err c S1 => rw [hf] at p; exact p
  | ok ds S1 =>
    rw [hf] at p
    have p : PostL X.K cl W σ w H (compL t ft fe (wipeE ρ own) ds S1 []) Q := p
    intro w1 H1 J e1 o1 wk Dd hDd
    have hid1 := o1.hid hDd
    refine ⟨fun i m H' => ∃ w' S' acc vs', Ext w1 H1 w' H' ∧ Ok X.K cl w' S' H' ∧ Hid w' Dd ∧ H' Dd = some (.lst vs') ∧ RA X.K w' vs' acc ∧ m = ds.length - i ∧ i ≤ ds.length ∧ PostL X.K cl W σ w H (compL t ft fe (wipeE ρ own) (ds.drop i) S' acc) Q,
      ⟨ds.length, w1, S1, [], [], (Ext.refl w1 H1).mut hDd, o1.mut hid1, hid1, upd_same, .nil, rfl, Nat.zero_le _, p⟩, ?_⟩
    rintro i m H' ⟨w', S', acc, vs', x', o', hid', hD', ra', rfl, hle, p'⟩
    obtain ⟨hgo, hstop⟩ := wk i w' S' H' x'.le o'
    by_cases hi : i < ds.length
    · have hd : ds[i]? = some ds[i] := by simp [hi]
      rw [List.drop_eq_getElem_cons hi] at p'
      simp only [compL] at p'
      obtain ⟨go, yld⟩ := hgo _ hd
      refine .inr ⟨go, fun H2 => ∃ w2 S2 acc2 vs2, Ext w1 H1 w2 H2 ∧ Ok X.K cl w2 S2 H2 ∧ Hid w2 Dd ∧ H2 Dd = some (.lst vs2) ∧ RA X.K w2 vs2 acc2 ∧ PostL X.K cl W σ w H (compL t ft fe (wipeE ρ own) (ds.drop (i + 1)) S2 acc2) Q,
        fun H2 ⟨w2, S2, acc2, vs2, a1, a2, a3, a4, a5, a6⟩ => ⟨ds.length - (i + 1), by omega, w2, S2, acc2, vs2, a1, a2, a3, a4, a5, rfl, hi, a6⟩, fun x H2 y => ?_⟩
      obtain ⟨w2, e2, o2, r2⟩ := yld x H2 y
      have en2 : EnvR X.K w2 H2 (wipe σ own) (wipeE ρ own) := (((n.mono e1).mono x').mono e2).wipe own
      have x2 := x'.trans e2
      cases ht : t ds[i] (wipeE ρ own) with
      | none => rw [ht] at p'; exact p'.elim
      | some ρ1 =>
        rw [ht] at p'
        refine ⟨w2, wipeE ρ own, S', ds[i], ρ1, o2, en2, r2, ht, fun σ3 n3 l3 k3 => ⟨wipe_same (l3.trans (wipe_length _ _)) fun j hj => k3 j fun z => hj (hks j z), tG.at o2 n3 ?_⟩⟩
        have p' : PostL X.K cl W σ w H ((noErr (ft ρ1 S')).bind fun b S1 => if b = true then (noErr (fe ρ1 S1)).bind fun y S2 => if acc.length < LIM then compL t ft fe (wipeE ρ own) (ds.drop (i + 1)) S2 (acc ++ [y]) else .bad else compL t ft fe (wipeE ρ own) (ds.drop (i + 1)) S1 acc) Q := p'
        refine Post.in0 (e1.trans x2) p' fun b S3 w3 b' H3 e3 o3 rb p3 => ?_
        cases (show b' = b from rb)
        have x3 := x2.trans e3
        have hid2 := hid'.mono e2 hD'
        have hD2 := e2.keep Dd _ hD' hid'.nK
        have hid3 := hid2.mono e3 hD2
        have hD3 := e3.keep Dd _ hD2 hid2.nK
        cases b with
        | false =>
          rw [if_neg Bool.false_ne_true] at p3 ⊢
          exact ⟨w3, S3, acc, vs', x3, o3, hid3, hD3, (ra'.mono e2.le).mono e3.le, p3⟩
        | true =>
          rw [if_pos rfl] at p3 ⊢
          refine tG.at o3 (n3.mono e3) (Post.in0 (e1.trans x3) p3 fun y S4 w4 yv H4 e4 o4 ry p4 => ?_)
          split at p4
          · rename_i hl
            have hid4 := hid3.mono e4 hD3
            have hD4 := e4.keep Dd _ hD3 hid3.nK
            have ra4 := ((ra'.mono e2.le).mono e3.le).mono e4.le
            exact ⟨vs', hD4, lim_lt (by rw [ra'.length]; exact hl), w4, S4, acc ++ [y], vs' ++ [yv], (x3.trans e4).mut hDd, o4.mut hid4, hid4, upd_same, ra4.append (.one ry), p4⟩
          · exact p4.elim
    · refine .inl ⟨hstop (by omega), ?_⟩
      rw [List.drop_eq_nil_of_le (Nat.le_of_not_lt hi)] at p'
      exact p' w' Dd vs' H' (e1.trans x') o' (e1.back hDd) hD' hid' ra'
theorem dl_comp {elt tg iter : Expr} {ifs : List Expr} {scope : Scope} {own : List (Str × Nat)} {ks : List Nat} {pos : Pos} {fi : Env → Store → Res (List D)} {t : Tgt} {ft : Env → Store → Res Bool} {fe : Env → Store → Res D} (hc : X.calm = true) (hN : X.N.Nodup) (hi : DI X cl W tg iter fi) (ok : BlkOk X.N X.env.scope scope own)
    (hg : ∀ (s : Shared) (H : Hp) (C : Addr) (cs : List (Str × Addr)) (fp : List Addr), PG (X.blk s H scope (compEnvC scope cs C X.env) fp) tg (gE X.K cl (own.map (·.2)) t))
    (ht : ∀ (s : Shared) (H : Hp) (C : Addr) (cs : List (Str × Addr)) (fp : List Addr), PTs (X.blk s H scope (compEnvC scope cs C X.env) fp) ifs (tG X.K cl W0 RB ft))
    (he : ∀ (s : Shared) (H : Hp) (C : Addr) (cs : List (Str × Addr)) (fp : List Addr), PE (X.blk s H scope (compEnvC scope cs C X.env) fp) elt (tG X.K cl W0 (R X.K) fe)) (hs : ∀ x, foldedSetIterable iter X.env x = pure x := by intro _; rfl) (hks : own.map (·.2) = ks := by rfl) :
    DL X cl W (.ListComp elt [⟨tg, iter, ifs, 0⟩] scope pos) (fComp fi t ft fe ks) := by
  subst hks
  exact PE.imp (pe_lc hc hN hi ok hg ht he hs) fun σ H Q h => tLc_of (tg := tg) (iter := iter) (fun _ z => z) h
theorem ds_setLc {e : Pt} {i : Nat} {y : Str} {py : Pos} {elt tg iter : Expr} {ifs : List Expr} {scope : Scope} {own : List (Str × Nat)} {ks : List Nat} {pos spos : Pos} {fi : Env → Store → Res (List D)} {t : Tgt} {ft : Env → Store → Res Bool} {fe : Env → Store → Res D} (hc : X.calm = true) (hN : X.N.Nodup) (hy : X.N[i]? = some y) (hyl : X.env.scope.names.lookup y = some .local)
    (hsw : swapsWith (.ListComp elt [⟨tg, iter, ifs, 0⟩] scope pos) (some (.Name y py)) spos.line X.env = pure true) (hi : DI X cl W tg iter fi) (ok : BlkOk X.N X.env.scope scope own)
    (hg : ∀ (s : Shared) (H : Hp) (C : Addr) (cs : List (Str × Addr)) (fp : List Addr), PG (X.blk s H scope (compEnvC scope cs C X.env) fp) tg (gE X.K cl (own.map (·.2)) t))
    (ht : ∀ (s : Shared) (H : Hp) (C : Addr) (cs : List (Str × Addr)) (fp : List Addr), PTs (X.blk s H scope (compEnvC scope cs C X.env) fp) ifs (tG X.K cl W0 RB ft))
    (he : ∀ (s : Shared) (H : Hp) (C : Addr) (cs : List (Str × Addr)) (fp : List Addr), PE (X.blk s H scope (compEnvC scope cs C X.env) fp) elt (tG X.K cl W0 (R X.K) fe)) (hs : ∀ x, foldedSetIterable iter X.env x = pure x := by intro _; rfl) (hks : own.map (·.2) = ks := by rfl) :
    DS X cl e W (.Assign [.Name y py] (.ListComp elt [⟨tg, iter, ifs, 0⟩] scope pos) spos) (sSet i (fFrz (fComp fi t ft fe ks))) := by
  subst hks
  exact PS.imp (ps_setLc hc hN hy hyl hsw hi ok hg ht he hs) fun Z σ H ⟨w, ρ, S, fs, p⟩ => tLc_of (tg := tg) (iter := iter) (fun _ z => z) ⟨w, ρ, S, fs.ok, fs.env, postL_frz (PostS.expr p fs fun d S1 w1 v H1 _ f1 r1 p1 => p1 w1 _ H1 (Le.refl _) (f1.set r1))⟩
end

/-! ### own lists -/
section
variable {X : Cx} {cl : Str → Addr} {e : Pt} {W : WX} {pos : Pos}
theorem dl_lst {es : List Expr} {g : Env → Store → Res (List D)} (h : DA X cl W es g) : DL X cl W (.List es pos) (fun ρ S => (g ρ S).bind fun ds S1 => if ds.length ≤ LIM then .ok ds S1 else .bad) := by
  refine PE.imp (pe_lst h) fun σ H Q ⟨w, ρ, S, o, n, p⟩ => tG.at o n ?_
  cases hg : g ρ S with
  | bad => simp only [hg, Res.bind] at p; exact p
  | err c S1 => simp only [hg, Res.bind] at p; exact p
  | ok ds S1 =>
    simp only [hg, Res.bind] at p
    intro w1 vs H1 e1 o1 r1
    split at p
    · rename_i hl
      exact ⟨lim_le (by rw [r1.length]; exact hl), fun q hq => p w1 q vs _ (e1.mut (e1.back hq)) (o1.mut (o1.hid hq)) (e1.back hq) upd_same (o1.hid hq) r1⟩
    · exact p.elim
def sSetOwn (i : Nat) (f : Env → Store → Res (List D)) : Stm := fun ρ S => Out.of (f ρ S) ρ fun l S1 => .next (ρ.set i (some (.own l))) S1
theorem ds_setOwn {i : Nat} {x : Str} {ex : Expr} {pos' : Pos} {f : Env → Store → Res (List D)} (hN : X.N.Nodup) (hi : X.N[i]? = some x) (hx : Loc X.env.scope x) (h : DL X cl W ex f) (hs : swapsWith ex (some (.Name x pos')) pos.line X.env = pure false := by rfl)
    (hf : X.fn x = true ∨ X.env.scope.names.lookup x = some .local := by first | exact .inl rfl | exact .inr rfl | assumption) : DS X cl e W (.Assign [.Name x pos'] ex pos) (sSetOwn i f) := by
  refine PS.imp (ps_set hN hi hx h hs hf) fun Z σ H ⟨w, ρ, S, fs, p⟩ => ⟨w, ρ, S, fs.ok, fs.env, ?_⟩
  unfold sSetOwn at p
  cases hf : f ρ S with
  | bad => simp only [hf, Out.of] at p; exact p
  | err c S1 => simp only [hf, Out.of] at p; exact fun w' H' x o => p w' σ H' x.le (fs.on x o)
  | ok l S1 =>
    simp only [hf, Out.of] at p
    intro w1 a vs H1 e1 o1 ha h1 hid ra
    refine p w1 _ H1 e1.le ((fs.on e1 o1).setOwn rfl ⟨a, vs, rfl, h1, ra, hid⟩ (fs.ext.back ha) fun j t hj ht hji hv => ?_)
    obtain ⟨v, hv', so⟩ := fs.env.slot j t hj
    rw [hv] at hv'
    cases hv'
    cases t with
    | dat d => cases ht
    | own l2 => obtain ⟨b, us, eb, hb, _⟩ := so; cases eb; rw [ha] at hb; cases hb
    | ownd l2 => obtain ⟨b, us, eb, hb, _⟩ := so; cases eb; rw [ha] at hb; cases hb
/-- what is own is changed -/
theorem Fs.mutOwn {K : PySem.W.Frag} {σ : L2.St} {H : Hp} {w : Wd} {ρ : Env} {S : Store} {i : Nat} {a : Addr} {s s' : Slot} {o : HO} (f : Fs K cl e σ H w ρ S) (hs : ρ[i]? = some (some s)) (so : s.isOwn = true) (hi : σ[i]? = some (some (.ref a))) (hid : Hid w a) (so' : s'.isOwn = true) (ok' : SlotOk K w (upd H a o) s' (.ref a)) :
    Fs K cl e σ (upd H a o) w (ρ.set i (some s')) S := by
  have il : i < ρ.length := (List.getElem?_eq_some_iff.mp hs).1
  have hfr : e.H a = none := f.fr i s a hs so hi
  refine ⟨f.ext.mut hfr, f.ok.mut hid, ⟨by simp [f.env.len], fun j t ht => ?_, fun j l t t' u hjl hj hl os ot hvj hvl => ?_⟩, fun j t b hj os hv => ?_⟩
  · by_cases ej : j = i
    · subst ej
      rw [List.getElem?_set_self il] at ht
      cases ht
      exact ⟨_, hi, ok'⟩
    · rw [List.getElem?_set_ne (Ne.symm ej)] at ht
      obtain ⟨v, hv, sv⟩ := f.env.slot j t ht
      refine ⟨v, hv, ?_⟩
      cases t with
      | dat d => exact sv
      | own l =>
        obtain ⟨b, us, rfl, hb, rb, hb2⟩ := sv
        have ne : b ≠ a := fun z => by subst z; exact f.env.sep j i _ _ _ ej ht hs rfl so hv hi
        exact ⟨b, us, rfl, by rw [upd_ne ne]; exact hb, rb, hb2⟩
      | ownd l =>
        obtain ⟨b, us, rfl, hb, rb, hb2⟩ := sv
        have ne : b ≠ a := fun z => by subst z; exact f.env.sep j i _ _ _ ej ht hs rfl so hv hi
        exact ⟨b, us, rfl, by rw [upd_ne ne]; exact hb, rb, hb2⟩
  · have old : ∀ {m : Nat} {t : Slot}, (ρ.set i (some s'))[m]? = some (some t) → t.isOwn = true → ∃ t0, ρ[m]? = some (some t0) ∧ t0.isOwn = true := fun {m t} hm ot => by
      by_cases em : m = i
      · subst em; exact ⟨s, hs, so⟩
      · rw [List.getElem?_set_ne (Ne.symm em)] at hm; exact ⟨t, hm, ot⟩
    obtain ⟨t0, h0, o0⟩ := old hj os
    obtain ⟨t1, h1, o1⟩ := old hl ot
    exact f.env.sep j l t0 t1 u hjl h0 h1 o0 o1 hvj hvl
  · by_cases ej : j = i
    · subst ej
      rw [hi] at hv; cases hv
      exact hfr
    · rw [List.getElem?_set_ne (Ne.symm ej)] at hj
      exact f.fr j t b hj os hv
/-- x.append(e), x own -/
def sAppend (i : Nat) (f : Env → Store → Res (List D)) : Stm := fun ρ S => match ρ[i]? with
  | some (some (.own l)) => Out.of (f ρ S) ρ fun ds S1 => match ds with
    | [d] => if l.length < LIM then .next (ρ.set i (some (.own (l ++ [d])))) S1 else .bad
    | _ => .bad
  | _ => .bad
theorem ds_append {i : Nat} {x : Str} {p apos cpos : Pos} {ex : Expr} {f : Env → Store → Res (List D)} (hv : PE X (.Name x p) (tVar i)) (h : DA X cl W [ex] f)
    (hbase : attributeBase (.Name x p) "append" X.env (eval (.Name x p) X.env) = eval (.Name x p) X.env := by rfl)
    (hfew : ((backTo cpos (starEach [ex] X.env)).all (fun x => !x.1) && (backToKw cpos (keywordEach [] X.env)).all (fun x => x.1.isSome)
      && decide (([ex] : List Expr).length + ([] : List Keyword).length + (if ([] : List Keyword).isEmpty then 0 else 1) < 30)) = true := by rfl)
    (hline : (apos.endLine == cpos.line) = true := by rfl) (hs : starEach [ex] X.env = (false, eval ex X.env) :: starEach [] X.env := by rfl) (hplain : (backTo cpos (starEach [] X.env)).any (·.1) = false := by rfl)
    (hsw : swapsWith (.Call (.Attribute (.Name x p) "append" apos) [ex] [] cpos) none pos.line X.env = pure false := by rfl) :
    DS X cl e W (.Expr (.Call (.Attribute (.Name x p) "append" apos) [ex] [] cpos) pos) (sAppend i f) := by
  refine PS.imp (ps_expr (pe_bm PySem.F.plainAttrs_list PySem.F.slot_list_append PySem.F.type_list_append mt_append hv h hbase hfew hline hs hplain) hsw) fun Z σ H ⟨w, ρ, S, fs, q⟩ => ?_
  unfold sAppend at q
  split at q
  · rename_i l hl
    obtain ⟨v, hv, a, vs, rfl, ha, ra, hid⟩ := fs.env.slot i _ hl
    refine ⟨_, hv, .inl ⟨rfl, vs, SqL.of ha⟩, fs.tG (PostS.expr q fs fun ds S1 w1 us H1 e1 f1 r1 p1 => ?_)⟩
    have ha1 := e1.keep a _ ha hid.nK
    have hid1 := hid.mono e1 ha
    split at p1
    · split at p1
      · rename_i d hlt
        obtain ⟨u, rfl, ru⟩ := ra1 r1
        refine ⟨a, vs, u, rfl, rfl, ha1, lim_lt (by rw [ra.length]; exact hlt), p1 w1 σ _ (Le.refl _) (f1.mutOwn hl rfl hv hid1 rfl ⟨a, _, rfl, upd_same, (ra.mono e1.le).append (.one ru), hid1⟩)⟩
      · exact p1.elim
    · exact p1.elim
  · exact q.elim
/-- an own list becomes data (no step of the program) -/
def sFreeze (i : Nat) (g : Stm) : Stm := fun ρ S => match ρ[i]? with
  | some (some (.own l)) => g (ρ.set i (some (.dat (.lst l)))) S
  | some (some (.ownd l)) => g (ρ.set i (some (.dat (.dic l)))) S
  | _ => .bad
theorem Fs.freeze {K : PySem.W.Frag} {σ : L2.St} {H : Hp} {w : Wd} {ρ : Env} {S : Store} {i : Nat} {a : Addr} {s : Slot} {o : HO} {d : D} (f : Fs K cl e σ H w ρ S) (hs : ρ[i]? = some (some s)) (so : s.isOwn = true) (hi : σ[i]? = some (some (.ref a))) (hid : Hid w a) (ha : H a = some o) (hr : R K (w.lay a o) (.ref a) d) :
    Fs K cl e σ H (w.lay a o) (ρ.set i (some (.dat d))) S := by
  have il : i < ρ.length := (List.getElem?_eq_some_iff.mp hs).1
  have hfr : e.H a = none := f.fr i s a hs so hi
  have le := Le.lay (o := o) hid.nF
  refine ⟨f.ext.freeze hid.nF hfr, f.ok.freeze hid ha, ⟨by simp [f.env.len], fun j t ht => ?_, fun j l t t' u hjl hj hl os ot hvj hvl => ?_⟩, fun j t b hj os hv => ?_⟩
  · by_cases ej : j = i
    · subst ej
      rw [List.getElem?_set_self il] at ht
      cases ht
      exact ⟨_, hi, hr⟩
    · rw [List.getElem?_set_ne (Ne.symm ej)] at ht
      obtain ⟨v, hv, sv⟩ := f.env.slot j t ht
      refine ⟨v, hv, ?_⟩
      have hidn : ∀ {b : Addr}, b ≠ a → Hid w b → Hid (w.lay a o) b := fun {b} nb hb => ⟨by show upd w.F a o b = none; rw [upd_ne nb]; exact hb.nF, hb.nK⟩
      cases t with
      | dat d => exact R.mono le sv
      | own l =>
        obtain ⟨b, us, rfl, hb, rb, hb2⟩ := sv
        have ne : b ≠ a := fun z => by subst z; exact f.env.sep j i _ _ _ ej ht hs rfl so hv hi
        exact ⟨b, us, rfl, hb, rb.mono le, hidn ne hb2⟩
      | ownd l =>
        obtain ⟨b, us, rfl, hb, rb, hb2⟩ := sv
        have ne : b ≠ a := fun z => by subst z; exact f.env.sep j i _ _ _ ej ht hs rfl so hv hi
        exact ⟨b, us, rfl, hb, rb.mono le, hidn ne hb2⟩
  · have old : ∀ {m : Nat} {t : Slot}, (ρ.set i (some (.dat d)))[m]? = some (some t) → t.isOwn = true → ρ[m]? = some (some t) := fun {m t} hm ot => by
      by_cases em : m = i
      · subst em; rw [List.getElem?_set_self il] at hm; cases hm; cases ot
      · rw [List.getElem?_set_ne (Ne.symm em)] at hm; exact hm
    exact f.env.sep j l t t' u hjl (old hj os) (old hl ot) os ot hvj hvl
  · by_cases ej : j = i
    · subst ej
      rw [List.getElem?_set_self il] at hj; cases hj; cases os
    · rw [List.getElem?_set_ne (Ne.symm ej)] at hj
      exact f.fr j t b hj os hv
theorem ds_freeze {st : Stmt} {g : Stm} (i : Nat) (h : DS X cl e W st g) : DS X cl e W st (sFreeze i g) := by
  refine PS.imp h fun Z σ H ⟨w, ρ, S, fs, p⟩ => ?_
  unfold sFreeze at p
  split at p
  · rename_i l hl
    obtain ⟨v, hv, a, vs, rfl, ha, ra, hid⟩ := fs.env.slot i _ hl
    exact ⟨_, _, S, fs.freeze hl rfl hv hid ha (.lst upd_same (ra.mono (Le.lay hid.nF))), PostS.le (Le.lay hid.nF) p⟩
  · rename_i l hl
    obtain ⟨v, hv, a, vs, rfl, ha, ra, hid⟩ := fs.env.slot i _ hl
    exact ⟨_, _, S, fs.freeze hl rfl hv hid ha (.dic (.inl upd_same) (ra.mono (Le.lay hid.nF))), PostS.le (Le.lay hid.nF) p⟩
  · exact p.elim
theorem dss_freeze {st : List Stmt} {g : Stm} (i : Nat) (h : DSs X cl e W st g) : DSs X cl e W st (sFreeze i g) := by
  refine PSs.imp h fun Z σ H ⟨w, ρ, S, fs, p⟩ => ?_
  unfold sFreeze at p
  split at p
  · rename_i l hl
    obtain ⟨v, hv, a, vs, rfl, ha, ra, hid⟩ := fs.env.slot i _ hl
    exact ⟨_, _, S, fs.freeze hl rfl hv hid ha (.lst upd_same (ra.mono (Le.lay hid.nF))), PostS.le (Le.lay hid.nF) p⟩
  · rename_i l hl
    obtain ⟨v, hv, a, vs, rfl, ha, ra, hid⟩ := fs.env.slot i _ hl
    exact ⟨_, _, S, fs.freeze hl rfl hv hid ha (.dic (.inl upd_same) (ra.mono (Le.lay hid.nF))), PostS.le (Le.lay hid.nF) p⟩
  · exact p.elim
end
end BW
namespace BW
open PySem PySem.Spec PyProof.Rows L2
/-! ### a def -/
def startE (n : Nat) (ds : List D) : Env := ds.map (fun d => some (.dat d)) ++ List.replicate (n - ds.length) none
def mOf (n : Nat) (g : Stm) : List D → Store → Res D := fun ds S => match g (startE n ds) S with
  | .next _ S' => .ok .non S'
  | .ret d S' => .ok d S'
  | .err c _ S' => .err c S'
  | _ => .bad
abbrev WOf (E : XK) : WX := fun c d _ H => E c d H
section
variable {P : Program} {w : World} {K : PySem.W.Frag} {mg : Str → Option Value} {base : Heap} {cl : Str → Addr}
theorem start_get {vs : List V} {ds : List D} {u : Wd} (r : RA K u vs ds) (N : List Str) (i : Nat) (s : Slot) (h : (startE N.length ds)[i]? = some (some s)) : ∃ v d, (L2.start N vs)[i]? = some (some v) ∧ s = .dat d ∧ R K u v d := by
  unfold startE at h
  unfold L2.start
  by_cases hi : i < ds.length
  · rw [List.getElem?_append_left (by simpa using hi), List.getElem?_map] at h
    have hd : ds[i]? = some ds[i] := by simp [hi]
    rw [hd] at h
    cases h
    obtain ⟨v, hv, rv⟩ := r.get hd
    refine ⟨v, ds[i], ?_, rfl, rv⟩
    rw [List.getElem?_append_left (by rw [List.length_map, r.length]; exact hi), List.getElem?_map, hv]
    rfl
  · rw [List.getElem?_append_right (by simpa using Nat.le_of_not_lt hi)] at h
    have := List.getElem?_eq_some_iff.mp h
    obtain ⟨h1, h2⟩ := this
    rw [List.getElem_replicate] at h2
    cases h2
def scp (ns : List (Str × NameKind)) (more : List (Str × Const)) : Scope := { kind := .function, names := ns, isGenerator := false, isCoroutine := false, more := more }
theorem Fun.fn {x qual : Str} {st : Stmt} {bd : List Stmt} {sc : Scope} {f : Addr} {fd : FuncData} {N ps : List Str} {k n : Nat} {g : Stm} (F : Fun K x qual st f fd) (hn : N.length = n) (hsc : defScope st = sc) (hbd : defBody st = bd) (Sc : FnScope N ps sc)
    (body : ∀ (cdv : Value) (A : Around) (outer : List PySem.Env) (s : Shared) (H : Hp) (E : XK) (e : Pt), Room k (A.deeper (envOfC qual sc s.heap.objs.size f cdv)) →
      DSs (cxOf (L2.CX P w) P w K mg base N qual sc f cdv A outer s H E) cl e (WOf E) bd g) : FnOk P w K mg base (L2.CX P w) (k + 1) f fd ps (spM K cl ps.length (mOf n g)) := by
  subst hsc hbd hn
  refine F.okX Sc (fun vs H Q E h => ?_) (fun cdv A outer s H vs Q E hr h => ?_)
  · obtain ⟨u, S, ds, _, r, hl, _⟩ := h
    rw [r.length, hl]
  · obtain ⟨u, S, ds, o, r, hl, p⟩ := h
    refine ⟨_, body cdv A outer s H E ⟨u, H⟩ hr, u, startE N.length ds, S, ⟨Ext.refl _ _, o, ⟨?_, fun i sl hs => ?_, fun i j sl t v _ hs _ os => ?_⟩, fun i sl a hs os => ?_⟩, ?_⟩
    · unfold L2.start startE
      simp [r.length]
    · obtain ⟨v, d, h1, rfl, rv⟩ := start_get r N i sl hs
      exact ⟨v, h1, rv⟩
    · obtain ⟨v, d, h1, rfl, rv⟩ := start_get r N i sl hs
      cases os
    · obtain ⟨v, d, h1, rfl, rv⟩ := start_get r N i sl hs
      cases os
    · unfold mOf at p
      cases hg : g (startE N.length ds) S with
      | next ρ S' => rw [hg] at p; exact fun w' σ' H' _ fs => p w' .non H' fs.ext fs.ok .non
      | ret d S' => rw [hg] at p; exact fun w' v H' _ x o' rv => p w' v H' x o' rv
      | err c ρ S' => rw [hg] at p; exact fun w' σ' H' _ fs => p w' H' fs.ext fs.ok
      | brk ρ S' => rw [hg] at p; exact p.elim
      | cont ρ S' => rw [hg] at p; exact p.elim
      | bad => rw [hg] at p; exact p.elim
end

/-! ### built-ins -/
section
variable {X : Cx} {cl : Str → Addr} {W : WX}
def gLen : List D → Store → Option D
  | [.lst l], _ => some (.int (l.length : Nat))
  | [.tup l], _ => some (.int (l.length : Nat))
  | [.str x], _ => if x.length ≤ LIM then some (.int (x.length : Nat)) else none
  | [.scr ns], _ => some (.int (ns.length : Nat))
  | [.dic kvs], _ => some (.int (kvs.length : Nat))
  | [.ref n], S => match S[n]? with
    | some (.lst l) => some (.int (l.length : Nat))
    | some (.dic l) => some (.int (l.length : Nat))
    | _ => none
  | _, _ => none
theorem call_lenR : CallR X (.builtin "len") (fun xs H Q => ∃ a kvs, xs = [V.ref a] ∧ Rd H a (.dK kvs) ∧ Q (.int (kvs.length : Nat)) H) := by
  intro pins s σ H xs us Q I r h
  obtain ⟨a, kvs, rfl, ha, q⟩ := h
  obtain ⟨u, rfl, ru⟩ := vals1 r
  cases ru
  exact d_len I ha fun t s' I' => ⟨.int _, H, I', ⟨t, rfl⟩, q⟩
theorem c_len : CallR X (.builtin "len") (rN X.K cl gLen) := by
  refine ofN (CallR.or call_len call_lenR) fun xs H Q w S ds z k r hg q => ?_
  unfold gLen at hg
  split at hg
  · cases hg
    obtain ⟨v, rfl, rv⟩ := ra1 r
    obtain ⟨a, vs, rfl, ha, ra⟩ := rv.lst_inv
    refine .inl ⟨.ref a, vs.length, rfl, .inl ⟨vs, k.sqL ha, rfl⟩, ?_⟩
    rw [ra.length]
    exact q w _ H (Ext.refl _ _) k (.int _)
  · cases hg
    obtain ⟨v, rfl, rv⟩ := ra1 r
    obtain ⟨a, vs, rfl, ha, ra⟩ := rv.tup_inv
    refine .inl ⟨.ref a, vs.length, rfl, .inr ⟨vs, k.sqT ha, rfl⟩, ?_⟩
    rw [ra.length]
    exact q w _ H (Ext.refl _ _) k (.int _)
  · split at hg
    · rename_i hl
      cases hg
      obtain ⟨v, rfl, rv⟩ := ra1 r
      cases rv
      exact .inl ⟨_, _, rfl, ⟨lim_le hl, rfl⟩, q w _ H (Ext.refl _ _) k (.int _)⟩
    · cases hg
  · cases hg
    obtain ⟨v, rfl, rv⟩ := ra1 r
    obtain ⟨a, rfl, ha⟩ := rv.scr_inv
    rename_i ns
    refine .inl ⟨.ref a, ns.length, rfl, .inl ⟨_, k.sub.seq ha, by simp⟩, q w _ H (Ext.refl _ _) k (.int _)⟩
  · cases hg
    obtain ⟨v, rfl, rv⟩ := ra1 r
    obtain ⟨a, vs, rfl, ha, ra⟩ := rv.dic_inv
    refine .inr ⟨a, vs, rfl, Rd.mono k.sub ha, ?_⟩
    rw [ra.length]
    exact q w _ H (Ext.refl _ _) k (.int _)
  · obtain ⟨v, rfl, rv⟩ := ra1 r
    obtain ⟨rfl, hn⟩ := rv.ref_inv
    split at hg
    · rename_i l hc
      cases hg
      obtain ⟨_, vs, ha, ra⟩ := k.cell _ _ hc
      refine .inl ⟨_, vs.length, rfl, .inl ⟨vs, SqL.of ha, rfl⟩, ?_⟩
      rw [ra.length]
      exact q w _ H (Ext.refl _ _) k (.int _)
    · rename_i l hc
      cases hg
      obtain ⟨_, vs, ha, ra⟩ := k.cell _ _ hc
      refine .inr ⟨_, vs, rfl, .inl ha, ?_⟩
      rw [ra.length]
      exact q w _ H (Ext.refl _ _) k (.int _)
    · cases hg
  · cases hg
/-- len(x), x own -/
def fLenOwn (i : Nat) : Env → Store → Res D := fun ρ S => match ρ[i]? with
  | some (some (.own l)) => .ok (.int (l.length : Nat)) S
  | _ => .bad
theorem de_lenOwn {i : Nat} {x : Str} {p p2 pos : Pos} (hv : PE X (.Name x p2) (tVar i)) (hg : Gl X "len") (hm : X.mg "len" = none)
    (he : starEach [Expr.Name x p2] X.env = (false, eval (.Name x p2) X.env) :: starEach [] X.env := by rfl) (hpl : (backTo pos (starEach [] X.env)).any (·.1) = false := by rfl) : DE X cl W (.Call (.Name "len" p) [.Name x p2] [] pos) (fLenOwn i) := by
  refine PE.imp (pe_callB call_len hg hm PySem.boot_len (pa_cons hv pa_nil he) (he := he) (hpl := hpl)) fun σ H Q ⟨w, ρ, S, o, n, q⟩ => ?_
  unfold fLenOwn at q
  split at q
  · rename_i l hl
    obtain ⟨v, hv, a, vs, rfl, ha, ra, hid⟩ := n.slot i _ hl
    refine ⟨_, hv, .ref a, vs.length, rfl, .inl ⟨vs, SqL.of ha, rfl⟩, ?_⟩
    rw [ra.length]
    exact q.here o (.int _)
  · exact q.elim
/-- all -/
def bools? : List D → Option (List Bool)
  | [] => some []
  | .bl b :: l => (bools? l).map (b :: ·)
  | _ :: _ => none
theorem bools_ra {K : PySem.W.Frag} {w : Wd} : ∀ {l : List D} {vs : List V} {ns : List Bool}, RA K w vs l → bools? l = some ns → vs = ns.map V.bl
  | [], _, _, .nil, e => by cases e; rfl
  | .bl i :: l, _, ns, .cons r t, e => by
    simp only [bools?, Option.map_eq_some_iff] at e
    obtain ⟨ms, e1, rfl⟩ := e
    cases r
    rw [bools_ra t e1]
    rfl
def gAll : List D → Store → Option D
  | [.lst l], _ => (bools? l).map fun bs => .bl (bs.all id)
  | _, _ => none
theorem c_all (hc : X.calm = true) : CallR X (.builtin "all") (rN X.K cl gAll) := by
  refine ofN (cr_all hc) fun xs H Q w S ds z k r hg q => ?_
  unfold gAll at hg
  split at hg
  · rename_i l
    cases hb : bools? l with
    | none => rw [hb] at hg; cases hg
    | some bs =>
      rw [hb] at hg; cases hg
      obtain ⟨v, rfl, rv⟩ := ra1 r
      obtain ⟨a, vs, rfl, ha, ra⟩ := rv.lst_inv
      have e := bools_ra ra hb
      subst e
      exact ⟨a, bs, rfl, k.sqL ha, q w _ H (Ext.refl _ _) k (.bl _)⟩
  · cases hg
/-- min, max of two -/
def gMin : List D → Store → Option D
  | [.int i, .int j], _ => some (.int (if j < i then j else i))
  | _, _ => none
def gMax : List D → Store → Option D
  | [.int i, .int j], _ => some (.int (if j > i then j else i))
  | _, _ => none
theorem c_min (hc : X.calm = true) : CallR X (.builtin "min") (rN X.K cl gMin) := by
  refine ofN (call_min2 hc) fun xs H Q w S ds z k r hg q => ?_
  unfold gMin at hg
  split at hg
  · cases hg
    obtain ⟨v, u, rfl, rv, ru⟩ := ra2 r
    cases rv; cases ru
    exact ⟨_, _, rfl, q w _ H (Ext.refl _ _) k (.int _)⟩
  · cases hg
theorem c_max (hc : X.calm = true) : CallR X (.builtin "max") (rN X.K cl gMax) := by
  refine ofN (call_max2 hc) fun xs H Q w S ds z k r hg q => ?_
  unfold gMax at hg
  split at hg
  · cases hg
    obtain ⟨v, u, rfl, rv, ru⟩ := ra2 r
    cases rv; cases ru
    exact ⟨_, _, rfl, q w _ H (Ext.refl _ _) k (.int _)⟩
  · cases hg
/-- tuple(x), list(x) -/
def gTuple : List D → Store → Option D
  | [.lst l], _ => some (.tup l)
  | [.tup l], _ => some (.tup l)
  | _, _ => none
theorem c_tuple : CallR X (.type "tuple") (rN X.K cl gTuple) := by
  refine ofN call_tuple_of fun xs H Q w S ds z k r hg q => ?_
  unfold gTuple at hg
  split at hg
  · cases hg
    obtain ⟨v, rfl, rv⟩ := ra1 r
    obtain ⟨a, vs, rfl, ha, ra⟩ := rv.lst_inv
    exact ⟨a, vs, rfl, .inl ⟨k.sqL ha, fun l hl => let ⟨e, o, rr⟩ := k.layT hl ra; q _ _ _ e o rr⟩⟩
  · cases hg
    obtain ⟨v, rfl, rv⟩ := ra1 r
    obtain ⟨a, vs, rfl, ha, ra⟩ := rv.tup_inv
    exact ⟨a, vs, rfl, .inr ⟨k.sqT ha, q w _ H (Ext.refl _ _) k rv⟩⟩
  · cases hg
def gList : List D → Store → Option D
  | [.lst l], _ => some (.lst l)
  | [.tup l], _ => some (.lst l)
  | _, _ => none
theorem c_list : CallR X (.type "list") (rN X.K cl gList) := by
  refine ofN call_list_of fun xs H Q w S ds z k r hg q => ?_
  unfold gList at hg
  split at hg
  · cases hg
    obtain ⟨v, rfl, rv⟩ := ra1 r
    obtain ⟨a, vs, rfl, ha, ra⟩ := rv.lst_inv
    exact ⟨a, vs, rfl, .inl (k.sqL ha), fun l hl => let ⟨e, o, rr⟩ := k.layL hl ra; q _ _ _ e o rr⟩
  · cases hg
    obtain ⟨v, rfl, rv⟩ := ra1 r
    obtain ⟨a, vs, rfl, ha, ra⟩ := rv.tup_inv
    exact ⟨a, vs, rfl, .inr (k.sqT ha), fun l hl => let ⟨e, o, rr⟩ := k.layL hl ra; q _ _ _ e o rr⟩
  · cases hg
/-- sorted of ints -/
def insI (x : Int) : List Int → List Int
  | [] => [x]
  | y :: l => if x ≤ y then x :: y :: l else y :: insI x l
def isort : List Int → List Int
  | [] => []
  | x :: l => insI x (isort l)
theorem insI_perm (x : Int) : ∀ l, (insI x l).Perm (x :: l)
  | [] => .refl _
  | y :: l => by
    unfold insI
    split
    · exact .refl _
    · exact ((insI_perm x l).cons y).trans (.swap x y l)
theorem isort_perm : ∀ l, (isort l).Perm l
  | [] => .refl _
  | x :: l => (insI_perm x (isort l)).trans ((isort_perm l).cons x)
theorem insI_le (x : Int) : ∀ l : List Int, l.Pairwise (· ≤ ·) → (insI x l).Pairwise (· ≤ ·)
  | [], _ => by simp [insI]
  | y :: l, h => by
    unfold insI
    obtain ⟨h1, h2⟩ := List.pairwise_cons.mp h
    split
    · rename_i hx
      exact List.pairwise_cons.mpr ⟨fun z hz => by
        rcases List.mem_cons.mp hz with e | e
        · rw [e]; exact hx
        · exact Int.le_trans hx (h1 z e), h⟩
    · rename_i hx
      refine List.pairwise_cons.mpr ⟨fun z hz => ?_, insI_le x l h2⟩
      rcases List.mem_cons.mp ((insI_perm x l).mem_iff.mp hz) with e | e
      · rw [e]; omega
      · exact h1 z e
theorem isort_le : ∀ l : List Int, (isort l).Pairwise (· ≤ ·)
  | [] => .nil
  | x :: l => insI_le x _ (isort_le l)
theorem perm_le_eq : ∀ {a b : List Int}, a.Perm b → a.Pairwise (· ≤ ·) → b.Pairwise (· ≤ ·) → a = b
  | [], b, p, _, _ => by rw [List.nil_perm.mp p]
  | x :: a, [], p, _, _ => by have := p.length_eq; simp at this
  | x :: a, y :: b, p, ha, hb => by
    obtain ⟨a1, a2⟩ := List.pairwise_cons.mp ha
    obtain ⟨b1, b2⟩ := List.pairwise_cons.mp hb
    have hx : x ∈ y :: b := p.mem_iff.mp List.mem_cons_self
    have hy : y ∈ x :: a := p.mem_iff.mpr List.mem_cons_self
    have e : x = y := by
      rcases List.mem_cons.mp hx with e | e
      · exact e
      · rcases List.mem_cons.mp hy with f | f
        · exact f.symm
        · have := b1 x e
          have := a1 y f
          omega
    subst e
    rw [perm_le_eq ((List.perm_cons x).mp p) a2 b2]
def gSorted : List D → Store → Option D
  | [.lst l], _ => (ints? l).map fun ns => .lst ((isort ns).map .int)
  | _, _ => none
theorem ra_ints {K : PySem.W.Frag} {w : Wd} : ∀ ns : List Int, RA K w (ns.map V.int) (ns.map D.int)
  | [] => .nil
  | n :: ns => .cons (.int n) (ra_ints ns)
theorem c_sorted : CallR X (.builtin "sorted") (rN X.K cl gSorted) := by
  refine ofN cr_sortedI fun xs H Q w S ds z k r hg q => ?_
  unfold gSorted at hg
  split at hg
  · rename_i l
    cases hb : ints? l with
    | none => rw [hb] at hg; cases hg
    | some ns =>
      rw [hb] at hg; cases hg
      obtain ⟨v, rfl, rv⟩ := ra1 r
      obtain ⟨a, vs, rfl, ha, ra⟩ := rv.lst_inv
      have e := ints_ra ra hb
      subst e
      refine ⟨a, ns, rfl, k.sqL ha, fun ns' p perm ris hp => ?_⟩
      have e : ns' = isort ns := perm_le_eq (perm.trans (isort_perm ns).symm) ris (isort_le ns)
      subst e
      obtain ⟨e, o, rr⟩ := k.layL hp (ra_ints (isort ns))
      exact q _ _ _ e o rr
  · cases hg

/-! ### isinstance -/
def tyN : D → Option String
  | .non => some "NoneType"
  | .bl _ => some "bool"
  | .int _ => some "int"
  | .str _ => some "str"
  | .tup _ => some "tuple"
  | .lst _ => some "list"
  | _ => none
theorem R.tyX {K : PySem.W.Frag} {w : Wd} {S : Store} {H : Hp} {v : V} {d : D} {t : String} (k : Ok K cl w S H) (r : R K w v d) (h : tyN d = some t) : TyX K H v (.type t) := by
  cases r <;> simp only [tyN] at h <;> cases h
  · exact .base .non
  · exact .base (.bl _)
  · exact .base (.int _)
  · exact .base (.str _)
  · rename_i hs _
    rcases k.sqT hs with (h | ⟨o, h⟩) | ⟨o, its, n, hk, hc, _⟩
    · exact .base (.tup h)
    · exact .fTuple h
    · exact .kTuple hk hc
  · rename_i hs _
    exact .base (.lst (k.sub _ _ hs))
structure IsT (T : String) (p : D → Option Bool) : Prop where
  ok : ∀ d b, p d = some b → ∃ t, tyN d = some t ∧ kitB t T = some b
def isIntD : D → Option Bool
  | .int _ => some true | .bl _ => some true | .non => some false | .str _ => some false | .tup _ => some false | .lst _ => some false | _ => none
def isBoolD : D → Option Bool
  | .bl _ => some true | .int _ => some false | .non => some false | .str _ => some false | .tup _ => some false | .lst _ => some false | _ => none
def isStrD : D → Option Bool
  | .str _ => some true | .int _ => some false | .non => some false | .bl _ => some false | .tup _ => some false | .lst _ => some false | _ => none
def isTupD : D → Option Bool
  | .tup _ => some true | .int _ => some false | .non => some false | .bl _ => some false | .str _ => some false | .lst _ => some false | _ => none
def isLstD : D → Option Bool
  | .lst _ => some true | .int _ => some false | .non => some false | .bl _ => some false | .str _ => some false | .tup _ => some false | _ => none
theorem isT_int : IsT "int" isIntD := ⟨fun d b h => by cases d <;> simp only [isIntD] at h <;> cases h <;> exact ⟨_, rfl, by decide +kernel⟩⟩
theorem isT_bool : IsT "bool" isBoolD := ⟨fun d b h => by cases d <;> simp only [isBoolD] at h <;> cases h <;> exact ⟨_, rfl, by decide +kernel⟩⟩
theorem isT_str : IsT "str" isStrD := ⟨fun d b h => by cases d <;> simp only [isStrD] at h <;> cases h <;> exact ⟨_, rfl, by decide +kernel⟩⟩
theorem isT_tup : IsT "tuple" isTupD := ⟨fun d b h => by cases d <;> simp only [isTupD] at h <;> cases h <;> exact ⟨_, rfl, by decide +kernel⟩⟩
theorem isT_lst : IsT "list" isLstD := ⟨fun d b h => by cases d <;> simp only [isLstD] at h <;> cases h <;> exact ⟨_, rfl, by decide +kernel⟩⟩
def fIsi (p : D → Option Bool) (f : Env → Store → Res D) : Env → Store → Res D := fun ρ S => (f ρ S).bind fun d S1 => Res.of S1 ((p d).map .bl)
theorem de_isi {T : String} {p : D → Option Bool} {x : Str} {e : Expr} {p1 p2 pos : Pos} {f : Env → Store → Res D} (ht : IsT T p) (h : DE X cl W e f) (hg : Gl X "isinstance") (hm : X.mg "isinstance" = none) (hgx : Gl X x) (hmx : X.mg x = none) (hvx : bootBuiltins x = some (.type T))
    (hn : x ≠ "__name__" := by decide) (hd : (x == ("__debug__" : Str)) = false := by decide)
    (he : starEach [e, Expr.Name x p2] X.env = (false, eval e X.env) :: starEach [Expr.Name x p2] X.env := by rfl) (he2 : starEach [Expr.Name x p2] X.env = (false, eval (.Name x p2) X.env) :: starEach [] X.env := by rfl) (hpl : (backTo pos (starEach [Expr.Name x p2] X.env)).any (·.1) = false := by rfl) :
    DE X cl W (.Call (.Name "isinstance" p1) [e, .Name x p2] [] pos) (fIsi p f) := by
  refine PE.imp (pe_callB call_isi hg hm (by decide +kernel) (pa_cons h (pa_cons (pe_bltn (v := .ty T) hgx hmx hvx rfl hn hd) pa_nil he2) he) (he := he) (hpl := hpl)) fun σ H Q ⟨w, ρ, S, o, n, q⟩ => tG.at o n (Post.bind q fun d S1 w1 v H1 e1 o1 r1 p1 => ?_)
  cases hp : p d with
  | none => rw [hp] at p1; exact p1.elim
  | some b =>
    rw [hp] at p1
    obtain ⟨t, ht1, ht2⟩ := ht.ok d b hp
    exact ⟨v, .ty T, .type t, .type T, b, rfl, .ty T, r1.tyX o1 ht1, kit_ty ht2, p1.here o1 (.bl _)⟩

/-! ### the module's constants -/
theorem de_gint {x : Str} {i : Int} {t : Tok} {pos : Pos} (hg : Gl X x) (hm : X.mg x = some (.int i t)) (hd : (x == ("__debug__" : Str)) = false := by decide) : DE X cl W (.Name x pos) (fC (.int i)) := de_c (pe_glob (v := .int i) hg hm ⟨t, rfl⟩ hd) fun _ => .int i
theorem de_gstr {x y : Str} {t : Tok} {pos : Pos} (hg : Gl X x) (hm : X.mg x = some (.str y t)) (hd : (x == ("__debug__" : Str)) = false := by decide) : DE X cl W (.Name x pos) (fC (.str y)) := de_c (pe_glob (v := .str y) hg hm ⟨t, rfl⟩ hd) fun _ => .str y
/-- a tuple of the module's top, of plain values -/
theorem de_gtup {x : Str} {a : Addr} {l : List D} {pos : Pos} (hg : Gl X x) (hm : X.mg x = some (.ref a)) (h : ∀ w, R X.K w (.ref a) (.tup l)) (hd : (x == ("__debug__" : Str)) = false := by decide) : DE X cl W (.Name x pos) (fC (.tup l)) := de_c (pe_glob (v := .ref a) hg hm rfl hd) h
end
end BW
namespace BW
open PySem PySem.Spec PyProof.Rows L2
theorem u65 {k : Nat} {A : Around} (r : Room k A) : A.units + 65 < cLine := by have := r.un; omega
theorem u1 {k : Nat} {A : Around} (r : Room k A) : A.units + 1 < cLine := by have := r.un; omega
section
variable {X : Cx} {cl : Str → Addr} {e : Pt} {W : WX} {pos : Pos}
def fNew (g : Env → Store → Res (List D)) : Env → Store → Res (List D) := fun ρ S => (g ρ S).bind fun ds S1 => if ds.length ≤ LIM then .ok ds S1 else .bad
theorem dl_new {es : List Expr} {g : Env → Store → Res (List D)} (h : DA X cl W es g) : DL X cl W (.List es pos) (fNew g) := dl_lst h
/-- a + b of two lists, a new one -/
def fAddL (fa fb : Env → Store → Res D) : Env → Store → Res (List D) := fun ρ S => (fa ρ S).bind fun a S1 => (fb ρ S1).bind fun b S2 => match a, b with
  | .lst a, .lst b => if a.length + b.length ≤ LIM then .ok (a ++ b) S2 else .bad
  | _, _ => .bad
theorem PostL.bind {K : PySem.W.Frag} {α β : Type} {Rl : Wd → β → α → Prop} {σ : L2.St} {w : Wd} {H : Hp} {r : Res α} {k : α → Store → Res (List D)} {Q : VK} {Q1 : β → Hp → Prop} (h : PostL K cl W σ w H (r.bind k) Q)
    (hk : ∀ d S1 w1 v H1, Ext w H w1 H1 → Ok K cl w1 S1 H1 → Rl w1 v d → PostL K cl W σ w H (k d S1) Q → Q1 v H1) (ne : ∀ d S1 c S2, k d S1 = .err c S2 → True) : Post K cl W σ Rl w H r Q1 := by
  cases r with
  | ok d S => exact fun w1 v H1 e1 o1 r1 => hk d S w1 v H1 e1 o1 r1 h
  | err c S => exact h
  | bad => exact h
theorem PostL.mono {K : PySem.W.Frag} {σ : L2.St} {w w1 : Wd} {H H1 : Hp} {r : Res (List D)} {Q : VK} (x : Ext w H w1 H1) (h : PostL K cl W σ w H r Q) : PostL K cl W σ w1 H1 r Q := by
  cases r with
  | ok l S => exact fun w' a vs H' e o ha h' hi ra => h w' a vs H' (x.trans e) o (x.back ha) h' hi ra
  | err c S => exact fun w' H' e o => h w' H' (x.trans e) o
  | bad => exact h
theorem dl_add {a b : Expr} {fa fb : Env → Store → Res D} (ha : DE X cl W a fa) (hb : DE X cl W b fb) : DL X cl W (.BinOp a .Add b pos) (fAddL fa fb) := by
  refine PE.imp (pe_op op_cat ha hb) fun σ H Q ⟨w, ρ, S, o, n, p⟩ => ?_
  refine tG.at o n (PostL.bind p (fun a S1 w1 x H1 e1 o1 r1 p1 => tG.at o1 (n.mono e1) (PostL.bind (PostL.mono e1 p1) (fun b S2 w2 y H2 e2 o2 r2 p2 => ?_) (fun _ _ _ _ _ => trivial))) (fun _ _ _ _ _ => trivial))
  have p3 := PostL.mono e2 p2
  split at p3
  · split at p3
    · rename_i l m hl
      obtain ⟨u, vs, rfl, h1, h2⟩ := (r1.mono e2.le).lst_inv
      obtain ⟨v, us, rfl, h3, h4⟩ := r2.lst_inv
      refine ⟨u, v, vs, us, rfl, rfl, o2.sub _ _ h1, o2.sub _ _ h3, lim_le (by rw [h2.length, h4.length]; exact hl), fun q hq => ?_⟩
      exact p3 w2 q _ _ ((Ext.refl _ _).mut hq) (o2.mut (o2.hid hq)) hq upd_same (o2.hid hq) (h2.append h4)
    · exact p3.elim
  · exact p3.elim
/-- list(x), a new one -/
def fListL (fa : Env → Store → Res (List D)) : Env → Store → Res (List D) := fun ρ S => (fa ρ S).bind fun ds S1 => match ds with
  | [.lst l] => .ok l S1
  | [.tup l] => .ok l S1
  | _ => .bad
theorem dl_list {p pos : Pos} {a : Expr} {fa : Env → Store → Res (List D)} (ha : DA X cl W [a] fa) (hg : Gl X "list") (hm : X.mg "list" = none) (he : starEach [a] X.env = (false, eval a X.env) :: starEach [] X.env := by rfl) (hpl : (backTo pos (starEach [] X.env)).any (·.1) = false := by rfl) :
    DL X cl W (.Call (.Name "list" p) [a] [] pos) (fListL fa) := by
  refine PE.imp (pe_callTy call_list_of hg hm (by decide +kernel) ha (he := he) (hpl := hpl)) fun σ H Q ⟨w, ρ, S, o, n, p⟩ => ?_
  refine tG.at o n (PostL.bind p (fun ds S1 w1 xs H1 e1 o1 r1 p1 => ?_) (fun _ _ _ _ _ => trivial))
  have p2 := PostL.mono e1 p1
  split at p2
  · obtain ⟨v, rfl, rv⟩ := ra1 r1
    obtain ⟨a, vs, rfl, h1, h2⟩ := rv.lst_inv
    exact ⟨a, vs, rfl, .inl (o1.sqL h1), fun q hq => p2 w1 q vs _ ((Ext.refl _ _).mut hq) (o1.mut (o1.hid hq)) hq upd_same (o1.hid hq) h2⟩
  · obtain ⟨v, rfl, rv⟩ := ra1 r1
    obtain ⟨a, vs, rfl, h1, h2⟩ := rv.tup_inv
    exact ⟨a, vs, rfl, .inr (o1.sqT h1), fun q hq => p2 w1 q vs _ ((Ext.refl _ _).mut hq) (o1.mut (o1.hid hq)) hq upd_same (o1.hid hq) h2⟩
  · exact p2.elim
/-- x[b], x own -/
def fIxOwn (i : Nat) (fb : Env → Store → Res D) : Env → Store → Res D := fun ρ S => match ρ[i]? with
  | some (some (.own l)) => (fb ρ S).bind fun b S1 => match b with
    | .int j => Res.of S1 (atI l j)
    | _ => .bad
  | _ => .bad
theorem de_ixOwn {i : Nat} {x : Str} {p pos : Pos} {b : Expr} {fb : Env → Store → Res D} (hv : PE X (.Name x p) (tVar i)) (hb : DE X cl W b fb) (hs : PlainIx b := by intro _ _; rfl) : DE X cl W (.Subscript (.Name x p) b pos) (fIxOwn i fb) := by
  refine PE.imp (pe_ix ix_list hv hb hs) fun σ H Q ⟨w, ρ, S, o, n, q⟩ => ?_
  unfold fIxOwn at q
  split at q
  · rename_i l hl
    obtain ⟨v, hv, a, vs, rfl, ha, ra, hid⟩ := n.slot i _ hl
    refine ⟨_, hv, tG.at o n (Post.bind q fun b S1 w1 y H1 e1 o1 r1 p1 => ?_)⟩
    split at p1
    · rename_i j
      cases r1
      cases hj : L2.atI l j with
      | none => rw [hj] at p1; exact p1.elim
      | some d =>
        rw [hj] at p1
        obtain ⟨z, hz, rz⟩ := ra.atI hj
        exact ⟨a, vs, j, z, rfl, rfl, SqL.of (e1.keep a _ ha hid.nK), hz, p1.here o1 (rz.mono e1.le)⟩
    · exact p1.elim
  · exact q.elim
/-- x[b] = e, x own -/
def sPutOwn (i : Nat) (fb fe : Env → Store → Res D) : Stm := fun ρ S => Out.of (fe ρ S) ρ fun d S1 => match ρ[i]? with
  | some (some (.own l)) => Out.of (fb ρ S1) ρ fun b S2 => match b with
    | .int j => match ixN l.length j with
      | some k => .next (ρ.set i (some (.own (l.set k d)))) S2
      | none => .bad
    | _ => .bad
  | _ => .bad
theorem ds_putOwn {i : Nat} {x : Str} {p tpos : Pos} {b ex : Expr} {fb fe : Env → Store → Res D} (hv : PE X (.Name x p) (tVar i)) (hb : DE X cl W b fb) (he : DE X cl W ex fe)
    (ha : ∀ v, assign (.Subscript (.Name x p) b tpos) X.env v = (do
      let ov ← holding [v] (eval (.Name x p) X.env)
      let iv ← holding [v, ov] (eval b X.env)
      standAt tpos
      holding [v, ov, iv] (setItem ov iv v)
      release [v, ov, iv] []) := by intro _; rfl)
    (hs : swapsWithSole [.Subscript (.Name x p) b tpos] ex pos.line X.env = pure false := by rfl) (hw : swappedStores [.Subscript (.Name x p) b tpos] ex X.env = pure none := by rfl)
    (h1 : (assignEach [.Subscript (.Name x p) b tpos] X.env).map (·.2) = [assign (.Subscript (.Name x p) b tpos) X.env] := by rfl) :
    DS X cl e W (.Assign [.Subscript (.Name x p) b tpos] ex pos) (sPutOwn i fb fe) := by
  refine PS.imp (ps_asg he (pg_sub hv hb set_list ha) hs hw h1) fun Z σ H ⟨w, ρ, S, fs, q⟩ => fs.tG (PostS.expr q fs fun d S1 w1 v H1 e1 f1 r1 p1 => ?_)
  split at p1
  · rename_i l hl
    obtain ⟨u, hu, a, vs, rfl, ha, ra, hid⟩ := f1.env.slot i _ hl
    refine ⟨_, hu, f1.tG (PostS.expr p1 f1 fun b S2 w2 y H2 e2 f2 r2 p2 => ?_)⟩
    have ha2 := e2.keep a _ ha hid.nK
    have hid2 := hid.mono e2 ha
    split at p2
    · rename_i j
      cases r2
      split at p2
      · rename_i k hk
        refine ⟨a, vs, j, k, rfl, rfl, ha2, by rw [ra.length]; exact hk, ?_⟩
        exact p2 w2 σ _ (Le.refl _) (f2.mutOwn hl rfl hu hid2 rfl ⟨a, _, rfl, upd_same, RA.set (r1.mono e2.le) k (ra.mono e2.le), hid2⟩)
      · exact p2.elim
    · exact p2.elim
  · exact p1.elim
end
/-- which built-in names the module leaves alone -/
structure Bt (mg : Str → Option Value) : Prop where
  len : mg "len" = none
  isinstance : mg "isinstance" = none
  int : mg "int" = none
  bool : mg "bool" = none
  str : mg "str" = none
  tuple : mg "tuple" = none
  list : mg "list" = none
  set : mg "set" = none
  dict : mg "dict" = none
  all : mg "all" = none
  zip : mg "zip" = none
  enumerate : mg "enumerate" = none
  range : mg "range" = none
  sorted : mg "sorted" = none
  min : mg "min" = none
  max : mg "max" = none
end BW
namespace BW
open PySem PySem.Spec PyProof.Rows L2
section
variable {X : Cx} {cl : Str → Addr} {W : WX}
theorem de_gint' {x : Str} {i : Int} {pos : Pos} (hg : Gl X x) (hm : ∃ t, X.mg x = some (.int i t)) (hd : (x == ("__debug__" : Str)) = false := by decide) : DE X cl W (.Name x pos) (fC (.int i)) := hm.elim fun _ h => de_gint hg h hd
theorem de_gstr' {x y : Str} {pos : Pos} (hg : Gl X x) (hm : ∃ t, X.mg x = some (.str y t)) (hd : (x == ("__debug__" : Str)) = false := by decide) : DE X cl W (.Name x pos) (fC (.str y)) := hm.elim fun _ h => de_gstr hg h hd
theorem de_gtup' {x : Str} {l : List D} {pos : Pos} (hg : Gl X x) (hm : ∃ a, X.mg x = some (.ref a) ∧ ∀ w, R X.K w (.ref a) (.tup l)) (hd : (x == ("__debug__" : Str)) = false := by decide) : DE X cl W (.Name x pos) (fC (.tup l)) := hm.elim fun _ h => de_gtup hg h.1 h.2 hd
end
end BW
namespace BW
open PySem
theorem bb_int : bootBuiltins "int" = some (.type "int") := by decide +kernel
theorem bb_bool : bootBuiltins "bool" = some (.type "bool") := by decide +kernel
theorem bb_str : bootBuiltins "str" = some (.type "str") := by decide +kernel
theorem bb_tuple : bootBuiltins "tuple" = some (.type "tuple") := by decide +kernel
theorem bb_list : bootBuiltins "list" = some (.type "list") := by decide +kernel
theorem bb_set : bootBuiltins "set" = some (.type "set") := by decide +kernel
theorem bb_dict : bootBuiltins "dict" = some (.type "dict") := by decide +kernel
theorem bb_len : bootBuiltins "len" = some (.builtin "len") := by decide +kernel
theorem bb_isinstance : bootBuiltins "isinstance" = some (.builtin "isinstance") := by decide +kernel
theorem bb_all : bootBuiltins "all" = some (.builtin "all") := by decide +kernel
theorem bb_sorted : bootBuiltins "sorted" = some (.builtin "sorted") := by decide +kernel
theorem bb_min : bootBuiltins "min" = some (.builtin "min") := by decide +kernel
theorem bb_max : bootBuiltins "max" = some (.builtin "max") := by decide +kernel
end BW
namespace BW
open PySem PySem.Spec PyProof.Rows L2
/-! ### the end -/
/-- where a class stands -/
def clOf (K : PySem.W.Frag) : Str → Addr := fun x => match PySem.W.nsIn K mainGlobals x with
  | some (some (.ref a)) => a
  | _ => 0
theorem clOf_eq {K : PySem.W.Frag} {x : Str} {a : Addr} (h : PySem.W.nsIn K mainGlobals x = some (some (.ref a))) : clOf K x = a := by unfold clOf; rw [h]
theorem kTup {K : PySem.W.Frag} {a : Addr} {od : Option Addr} {its : List Value} {n : Nat} {sl : Array (Option Value)} {vs : List V} {ds : List D} (hk : K.lookup a = some ⟨.type "tuple", od, .seq its.toArray n, sl⟩) (hz : its.length ≤ 100) (hv : Vals vs its) (ra : ∀ w, RA K w vs ds) (w : Wd) : R K w (.ref a) (.tup ds) :=
  .tup (.inr ⟨_, its.toArray, n, hk, rfl, rfl, by simpa using Nat.le_trans hz (by decide), by simpa using hv⟩) (ra w)
def lawW (a : Addr) (H : Hp) : Wd := ⟨0, fun _ => 0, fun b => if b = a then H a else none⟩
theorem law_start {K : PySem.W.Frag} {cl : Str → Addr} {H : Hp} {a : Addr} {ns : List Int} (h : SqL K H a (ns.map V.int)) : Ok K cl (lawW a H) [] H ∧ R K (lawW a H) (.ref a) (.scr ns) := by
  have e : (lawW a H).F a = H a := if_pos rfl
  refine ⟨⟨rfl, fun b o hb => ?_, fun i c hc => by simp at hc, fun i j hi => absurd hi (Nat.not_lt_zero _)⟩, .scr ?_⟩
  · by_cases eb : b = a
    · subst eb; rw [e] at hb; exact hb
    · have : (lawW a H).F b = none := if_neg eb
      rw [this] at hb; cases hb
  · rcases h with (h | ⟨o, h⟩) | h
    · exact .inl (.inl (e.trans h))
    · exact .inl (.inr ⟨o, e.trans h⟩)
    · exact .inr h
/-- what is left to show of a law -/
def LawOk (m : List D → Store → Res D) : Prop := ∀ ns : List Int, ns.length ≤ 63 → ∃ S, m [.scr ns] [] = .ok (.bl true) S
theorem law_sp {K : PySem.W.Frag} {cl : Str → Addr} {m : List D → Store → Res D} (h : LawOk m) {H : Hp} {a : Addr} {ns : List Int} (hl : ns.length ≤ 63) (hs : SqL K H a (ns.map V.int)) : spM K cl 1 m [.ref a] H (fun v _ => v = .bl true) fun _ _ _ => False := by
  obtain ⟨o, r⟩ := law_start (cl := cl) hs
  obtain ⟨S, e⟩ := h ns hl
  refine ⟨_, [], [.scr ns], o, .one r, rfl, ?_⟩
  rw [e]
  exact fun w' v H' _ _ rv => rv.bl_inv
theorem law_cx {P : Program} {w : World} {H : Hp} {s : Shared} {e : Value} {s' : Shared} (h : L2.CX P w [] H s (fun _ _ _ => False) e s') : False := by
  obtain ⟨_, _, _, _, _, _, _, _, _, _, _, _, z⟩ := h
  exact z
theorem walk_law {l : PySem.W.OpenLaw} {k : Nat} {m : List D → Store → Res D} {q : Program} {loose : List Str} {XP : (Str → Option Value) → Heap → Prop} {YP : World → Heap → Prop} {d : DefRec} {K : Params → PySem.W.Frag} (hlaw : LawOk m) (hn : l.most = some 63) (hdf : d.params.defaults = []) (hr : Room k callerA)
    (hY : ∀ (w : World) (h : Heap), YP w h → (K w.params).In h)
    (F : ∀ (w : World) (mg : Str → Option Value) (fa : Addr) (h : Heap), (K w.params).In h → h.Ns mainGlobals mg → mg d.name = some (.ref fa) →
      ∃ fd : FuncData, (∀ (s : Shared) (u : Value), BindsTo s fd ⟨[u], []⟩ [("script", u)]) ∧ ∀ base : Heap, (K w.params).In base → base.Ns mainGlobals mg → FnOk l.prog w (K w.params) mg base (L2.CX l.prog w) k fa fd ["script"] (spM (K w.params) (clOf (K w.params)) 1 m)) :
    PySem.W.WalkO q loose XP YP l.row.toRowW d [] (fun f vs => PySem.call f vs) :=
  L2.walk_of (n := 63) (k := k) (x := "script") (CX := fun w => L2.CX l.prog w) (sp := fun w => spM (K w.params) (clOf (K w.params)) 1 m) hn (by decide) hdf hr hY F (fun _ _ a ns hl _ hS => law_sp hlaw hl hS) fun _ _ _ _ _ z => law_cx z
end BW
namespace BW
open PySem L2
/-! ### reckoning with mirrors -/
section
variable {α β : Type} (ρ : Env) (S : Store)
@[simp] theorem bind_ok (a : α) (k : α → Store → Res β) : (Res.ok a S).bind k = k a S := rfl
@[simp] theorem bind_err (c : Str) (k : α → Store → Res β) : (Res.err c S : Res α).bind k = .err c S := rfl
@[simp] theorem bind_bad (k : α → Store → Res β) : (Res.bad : Res α).bind k = .bad := rfl
@[simp] theorem of_some (a : α) : Res.of S (some a) = .ok a S := rfl
@[simp] theorem of_none : Res.of S (none : Option α) = .bad := rfl
@[simp] theorem oof_ok (a : α) (k : α → Store → Out) : Out.of (.ok a S) ρ k = k a S := rfl
@[simp] theorem oof_err (c : Str) (k : α → Store → Out) : Out.of (.err c S : Res α) ρ k = .err c ρ S := rfl
@[simp] theorem oof_bad (k : α → Store → Out) : Out.of (.bad : Res α) ρ k = .bad := rfl
@[simp] theorem noErr_ok (a : α) : noErr (.ok a S) = .ok a S := rfl
@[simp] theorem e_fC (d : D) : fC d ρ S = .ok d S := rfl
@[simp] theorem e_fNil : fNil ρ S = .ok [] S := rfl
@[simp] theorem e_fCons (f : Env → Store → Res D) (g : Env → Store → Res (List D)) : fCons f g ρ S = (f ρ S).bind fun d S1 => (g ρ S1).bind fun ds S2 => .ok (d :: ds) S2 := rfl
@[simp] theorem e_fTup (g : Env → Store → Res (List D)) : fTup g ρ S = (g ρ S).bind fun ds S1 => if ds.length ≤ LIM then .ok (.tup ds) S1 else .bad := rfl
@[simp] theorem e_fLst (g : Env → Store → Res (List D)) : fLst g ρ S = (g ρ S).bind fun ds S1 => if ds.length ≤ LIM then .ok (.lst ds) S1 else .bad := rfl
@[simp] theorem e_f2 (g : D → D → Store → Option D) (fa fb : Env → Store → Res D) : f2 g fa fb ρ S = (fa ρ S).bind fun a S1 => (fb ρ S1).bind fun b S2 => Res.of S2 (g a b S2) := rfl
@[simp] theorem e_fN (g : List D → Store → Option D) (fa : Env → Store → Res (List D)) : fN g fa ρ S = (fa ρ S).bind fun ds S1 => Res.of S1 (g ds S1) := rfl
@[simp] theorem e_fM (n : Nat) (m : List D → Store → Res D) (fa : Env → Store → Res (List D)) : fM n m fa ρ S = (fa ρ S).bind fun ds S1 => if ds.length = n then m ds S1 else .bad := rfl
@[simp] theorem e_fB (f : Env → Store → Res D) : fB f ρ S = (f ρ S).bind fun d S1 => match d with | .bl b => .ok b S1 | _ => .bad := rfl
@[simp] theorem e_fAnd (f g : Env → Store → Res Bool) : fAnd f g ρ S = (f ρ S).bind fun b S1 => if b = true then g ρ S1 else .ok false S1 := rfl
@[simp] theorem e_fOr (f g : Env → Store → Res Bool) : fOr f g ρ S = (f ρ S).bind fun b S1 => if b = true then .ok true S1 else g ρ S1 := rfl
@[simp] theorem e_fNot (f : Env → Store → Res Bool) : fNot f ρ S = (f ρ S).bind fun b S1 => .ok (!b) S1 := rfl
@[simp] theorem e_vAnd (f g : Env → Store → Res D) : vAnd f g ρ S = (f ρ S).bind fun d S1 => match d with | .bl true => g ρ S1 | .bl false => .ok (.bl false) S1 | _ => .bad := rfl
@[simp] theorem e_vOr (f g : Env → Store → Res D) : vOr f g ρ S = (f ρ S).bind fun d S1 => match d with | .bl true => .ok (.bl true) S1 | .bl false => g ρ S1 | _ => .bad := rfl
@[simp] theorem e_vNot (f : Env → Store → Res D) : vNot f ρ S = (f ρ S).bind fun d S1 => match d with | .bl b => .ok (.bl (!b)) S1 | _ => .bad := rfl
@[simp] theorem e_fNeg (f : Env → Store → Res D) : fNeg f ρ S = (f ρ S).bind fun d S1 => match d with | .int i => .ok (.int (-i)) S1 | _ => .bad := rfl
@[simp] theorem e_fIf (t : Env → Store → Res Bool) (f g : Env → Store → Res D) : fIf t f g ρ S = (t ρ S).bind fun b S1 => if b = true then f ρ S1 else g ρ S1 := rfl
@[simp] theorem e_fChain (g g' : D → D → Store → Option D) (fa fb fc : Env → Store → Res D) : fChain g g' fa fb fc ρ S = (fa ρ S).bind fun a S1 => (fb ρ S1).bind fun b S2 => match g a b S2 with
    | some (.bl true) => (fc ρ S2).bind fun c S3 => Res.of S3 (g' b c S3)
    | some (.bl false) => .ok (.bl false) S2
    | _ => .bad := rfl
@[simp] theorem e_fIsi (p : D → Option Bool) (f : Env → Store → Res D) : fIsi p f ρ S = (f ρ S).bind fun d S1 => Res.of S1 ((p d).map .bl) := rfl
@[simp] theorem e_fCut (f : Env → Store → Res D) (l h : Env → Store → Res (Option Int)) : fCut f l h ρ S = (f ρ S).bind fun d S1 => (l ρ S1).bind fun lo S2 => (h ρ S2).bind fun hi S3 => Res.of S3 (gCut d lo hi) := rfl
@[simp] theorem e_oNone : oNone ρ S = .ok none S := rfl
@[simp] theorem e_oSome (f : Env → Store → Res D) : oSome f ρ S = (f ρ S).bind fun d S1 => match d with | .int i => .ok (some i) S1 | _ => .bad := rfl
@[simp] theorem e_fFrz (f : Env → Store → Res (List D)) : fFrz f ρ S = (f ρ S).bind fun l S1 => .ok (.lst l) S1 := rfl
@[simp] theorem e_fNew (g : Env → Store → Res (List D)) : fNew g ρ S = (g ρ S).bind fun ds S1 => if ds.length ≤ LIM then .ok ds S1 else .bad := rfl
@[simp] theorem e_fYes : fYes ρ S = .ok true S := rfl
@[simp] theorem e_fComp (fi : Env → Store → Res (List D)) (t : Tgt) (ft : Env → Store → Res Bool) (fe : Env → Store → Res D) (vs : List Nat) : fComp fi t ft fe vs ρ S = (fi ρ S).bind fun ds S1 => compL t ft fe (wipeE ρ vs) ds S1 [] := rfl
@[simp] theorem e_fItems (f : Env → Store → Res D) : fItems f ρ S = (f ρ S).bind fun d S1 => match d with
  | .lst l => .ok l S1
  | .tup l => .ok l S1
  | .str x => .ok (x.cps.toList.map fun c => .str ⟨#[c]⟩) S1
  | _ => .bad := rfl
@[simp] theorem e_fI (k : List D → Option (List D)) (fa : Env → Store → Res (List D)) : fI k fa ρ S = (fa ρ S).bind fun ds S1 => Res.of S1 (k ds) := rfl
@[simp] theorem e_sNil : sNil ρ S = .next ρ S := rfl
@[simp] theorem e_sRet (f : Env → Store → Res D) : sRet f ρ S = Out.of (f ρ S) ρ fun d S1 => .ret d S1 := rfl
@[simp] theorem e_sExpr (f : Env → Store → Res D) : sExpr f ρ S = Out.of (f ρ S) ρ fun _ S1 => .next ρ S1 := rfl
@[simp] theorem e_sIf (t : Env → Store → Res Bool) (g h : Stm) : sIf t g h ρ S = Out.of (t ρ S) ρ fun b S1 => if b = true then g ρ S1 else h ρ S1 := rfl
@[simp] theorem e_sSet (i : Nat) (f : Env → Store → Res D) : sSet i f ρ S = Out.of (f ρ S) ρ fun d S1 => .next (ρ.set i (some (.dat d))) S1 := rfl
@[simp] theorem e_sSetOwn (i : Nat) (f : Env → Store → Res (List D)) : sSetOwn i f ρ S = Out.of (f ρ S) ρ fun l S1 => .next (ρ.set i (some (.own l))) S1 := rfl
@[simp] theorem e_sFor (fi : Env → Store → Res (List D)) (t : Tgt) (g : Stm) : sFor fi t g ρ S = Out.of (fi ρ S) ρ fun ds S1 => forL t g ds ρ S1 := rfl
@[simp] theorem e_sAsg (t : Tgt) (f : Env → Store → Res D) : sAsg t f ρ S = Out.of (f ρ S) ρ fun d S1 => match t d ρ with | some ρ' => .next ρ' S1 | none => .bad := rfl
@[simp] theorem e_tgName (i : Nat) (d : D) : tgName i d ρ = some (ρ.set i (some (.dat d))) := rfl
@[simp] theorem e_tgNil : tgNil [] ρ = some ρ := rfl
@[simp] theorem e_tgCons (t : Tgt) (u : Tgts) (d : D) (r : List D) : tgCons t u (d :: r) ρ = (t d ρ).bind (u r) := rfl
@[simp] theorem e_tgTup (n : Nat) (u : Tgts) (l : List D) : tgTup n u (.tup l) ρ = if l.length = n then u l ρ else none := rfl
end
theorem fV_at {i : Nat} {ρ : Env} {d : D} {S : Store} (h : ρ[i]? = some (some (.dat d))) : fV i ρ S = .ok d S := by unfold fV; rw [h]
@[simp] theorem e_seq_next (g h : Stm) (ρ : Env) (S : Store) : sSeq g h ρ S = match g ρ S with | .next ρ1 S1 => h ρ1 S1 | o => o := rfl
@[simp] theorem e_fV0 (a : Slot) (l : Env) (S : Store) : fV 0 (some a :: l) S = match a with | .dat d => .ok d S | _ => .bad := by cases a <;> rfl
@[simp] theorem e_fVs (i : Nat) (a : Option Slot) (l : Env) (S : Store) : fV (i + 1) (a :: l) S = fV i l S := by unfold fV; simp
@[simp] theorem e_fVn (a : Option Slot) (l : Env) (S : Store) (i : Nat) : fV i.succ (a :: l) S = fV i l S := by unfold fV; simp
@[simp] theorem e_start (n : Nat) (ds : List D) : startE n ds = ds.map (fun d => some (.dat d)) ++ List.replicate (n - ds.length) none := rfl
@[simp] theorem e_mOf (n : Nat) (g : Stm) (ds : List D) (S : Store) : mOf n g ds S = match g (startE n ds) S with | .next _ S' => .ok .non S' | .ret d S' => .ok d S' | .err c _ S' => .err c S' | _ => .bad := rfl
/-! ### operations -/
section
variable (S : Store)
@[simp] theorem o1 (i j : Int) : gAdd (.int i) (.int j) S = some (.int (i + j)) := rfl
@[simp] theorem o2 (i j : Int) : gSub (.int i) (.int j) S = some (.int (i - j)) := rfl
theorem mul_ok {i j : Int} (h : (-(2 ^ 64) < i ∧ i < 2 ^ 64) ∨ (-(2 ^ 64) < j ∧ j < 2 ^ 64)) : gMul (.int i) (.int j) S = some (.int (i * j)) := by
  show (if _ then _ else _) = _
  rw [if_pos h]
theorem fdiv_ok {i j : Int} (h1 : 0 < j) (h2 : j < 1073741824) : gFdiv (.int i) (.int j) S = some (.int (i / j)) := by
  show (if _ then _ else _) = _
  rw [if_pos ⟨h1, h2⟩]
theorem mod_ok {i j : Int} (h : 0 < j) : gMod (.int i) (.int j) S = some (.int (i % j)) := by
  show (if _ then _ else _) = _
  rw [if_pos h]
@[simp] theorem o_lenL (l : List D) : gLen [.lst l] S = some (.int (l.length : Nat)) := rfl
@[simp] theorem o_lenT (l : List D) : gLen [.tup l] S = some (.int (l.length : Nat)) := rfl
@[simp] theorem o_lenS (l : List Int) : gLen [.scr l] S = some (.int (l.length : Nat)) := rfl
theorem eq_ok {a b : D} (neg : Bool) (ha : okD 12 a = true) (hb : okD 12 b = true) : gEq neg a b S = some (.bl (xor neg (deq a b))) := by
  unfold gEq
  rw [ha, hb]
  rfl
@[simp] theorem deq_int (i j : Int) : deq (.int i) (.int j) = (i == j) := by simp [deq, toPy, PyData.eqv]
@[simp] theorem deq_str (i j : Str) : deq (.str i) (.str j) = (i == j) := by simp [deq, toPy, PyData.eqv]
@[simp] theorem eq_int (neg : Bool) (i j : Int) : gEq neg (.int i) (.int j) S = some (.bl (xor neg (i == j))) := by rw [eq_ok S neg rfl rfl, deq_int]
@[simp] theorem ix_tup_nat (l : List D) (n : Nat) : gIx (.tup l) (.int (n : Int)) S = l[n]? := by
  show atI l _ = _
  unfold atI ixN
  rw [if_pos (Int.natCast_nonneg n)]
  by_cases h : n < l.length
  · rw [if_pos (by omega)]; simp
  · rw [if_neg (by omega)]; simp; omega
@[simp] theorem ix_lst_nat (l : List D) (n : Nat) : gIx (.lst l) (.int (n : Int)) S = l[n]? := ix_tup_nat S l n
theorem ix_tup (l : List D) {i : Int} (h : 0 ≤ i) : gIx (.tup l) (.int i) S = l[i.toNat]? := by
  have := ix_tup_nat S l i.toNat
  rw [Int.toNat_of_nonneg h] at this
  exact this
theorem ix_lst (l : List D) {i : Int} (h : 0 ≤ i) : gIx (.lst l) (.int i) S = l[i.toNat]? := ix_tup S l h
end
theorem lim_small {n : Nat} (h : n ≤ 1000) : n ≤ LIM := Nat.le_trans h (by decide)
theorem limlt_small {n : Nat} (h : n ≤ 1000) : n < LIM := Nat.lt_of_le_of_lt h (by decide)
/-! ### plain data -/
def PD : Nat → D → Bool
  | _, .non => true
  | _, .bl _ => true
  | _, .int _ => true
  | _, .str x => PyData.strOk x
  | n + 1, .tup l => decide (l.length ≤ 1000) && l.all (PD n)
  | n + 1, .lst l => decide (l.length ≤ 1000) && l.all (PD n)
  | _, _ => false
theorem PD_okD : ∀ {n : Nat} {d : D}, PD n d = true → okD n d = true := by
  intro n
  induction n with
  | zero => intro d h; cases d <;> simp_all [PD, BW.okD]
  | succ n ih =>
    intro d h
    cases d <;> simp_all [PD, BW.okD]
theorem okD_up : ∀ {n : Nat} {d : D}, okD n d = true → okD (n + 1) d = true := by
  intro n
  induction n with
  | zero => intro d h; cases d <;> simp_all [okD]
  | succ n ih =>
    intro d h
    cases d <;> simp_all [okD]
theorem okD_le {n m : Nat} {d : D} (h : okD n d = true) (hn : n ≤ m) : okD m d = true := by
  induction hn with
  | refl => exact h
  | step _ ih => exact okD_up ih
theorem PD_up : ∀ {n : Nat} {d : D}, PD n d = true → PD (n + 1) d = true := by
  intro n
  induction n with
  | zero => intro d h; cases d <;> simp_all [PD]
  | succ n ih =>
    intro d h
    cases d <;> simp_all [PD]
theorem PD_le {n m : Nat} {d : D} (h : PD n d = true) (hn : n ≤ m) : PD m d = true := by
  induction hn with
  | refl => exact h
  | step _ ih => exact PD_up ih
theorem PD_ok12 {n : Nat} {d : D} (h : PD n d = true) (hn : n ≤ 12 := by decide) : BW.okD 12 d = true := okD_le (PD_okD h) hn
theorem PD_ty {n : Nat} {d : D} (h : PD n d = true) : ∃ t, tyN d = some t := by
  cases d <;> first | exact ⟨_, rfl⟩ | (cases n <;> simp [PD] at h)
theorem PD_tup {n : Nat} {l : List D} (h : PD (n + 1) (.tup l) = true) : l.length ≤ 1000 ∧ ∀ x ∈ l, PD n x = true := by
  simp [PD] at h
  exact h
theorem PD_lst {n : Nat} {l : List D} (h : PD (n + 1) (.lst l) = true) : l.length ≤ 1000 ∧ ∀ x ∈ l, PD n x = true := by
  simp [PD] at h
  exact h
/-! ### comprehensions -/
theorem compL_map {fe : Env → Store → Res D} {ρ : Env} {t : Tgt} {S : Store} (f : D → D) : ∀ (xs acc : List D), (∀ x ∈ xs, ∃ ρ1, t x ρ = some ρ1 ∧ fe ρ1 S = .ok (f x) S) → acc.length + xs.length ≤ 100000 → compL t fYes fe ρ xs S acc = .ok (acc ++ xs.map f) S
  | [], acc, _, _ => by simp [compL]
  | x :: xs, acc, h, hl => by
    obtain ⟨ρ1, h1, h2⟩ := h x List.mem_cons_self
    have hlt : acc.length < LIM := Nat.lt_of_lt_of_le (by simp at hl; omega) (show 100000 ≤ LIM from Nat.le_refl _)
    have ih := compL_map (S := S) f xs (acc ++ [f x]) (fun y hy => h y (List.mem_cons_of_mem _ hy)) (by simp at hl ⊢; omega)
    simp only [compL, h1, e_fYes, noErr_ok, bind_ok, if_true, h2]
    rw [if_pos hlt, ih]
    simp
theorem compL_filter {ft : Env → Store → Res Bool} {fe : Env → Store → Res D} {ρ : Env} {t : Tgt} {S : Store} (p : D → Bool) (f : D → D) : ∀ (xs acc : List D), (∀ x ∈ xs, ∃ ρ1, t x ρ = some ρ1 ∧ ft ρ1 S = .ok (p x) S ∧ (p x = true → fe ρ1 S = .ok (f x) S)) → acc.length + xs.length ≤ 100000 → compL t ft fe ρ xs S acc = .ok (acc ++ (xs.filter p).map f) S
  | [], acc, _, _ => by simp [compL]
  | x :: xs, acc, h, hl => by
    obtain ⟨ρ1, h1, h2, h3⟩ := h x List.mem_cons_self
    simp only [compL, h1, h2, noErr_ok, bind_ok]
    by_cases hp : p x = true
    · have hlt : acc.length < LIM := Nat.lt_of_lt_of_le (by simp at hl; omega) (show 100000 ≤ LIM from Nat.le_refl _)
      have ih := compL_filter (S := S) (fe := fe) p f xs (acc ++ [f x]) (fun y hy => h y (List.mem_cons_of_mem _ hy)) (by simp at hl ⊢; omega)
      rw [if_pos hp, h3 hp]
      simp only [noErr_ok, bind_ok]
      rw [if_pos hlt, ih]
      simp [hp]
    · have ih := compL_filter (S := S) (fe := fe) p f xs acc (fun y hy => h y (List.mem_cons_of_mem _ hy)) (by simp at hl ⊢; omega)
      rw [if_neg hp, ih]
      simp [hp]
theorem bools_map {α : Type} (p : α → Bool) : ∀ xs : List α, bools? (xs.map fun x => D.bl (p x)) = some (xs.map p)
  | [] => rfl
  | x :: xs => by simp [bools?, bools_map p xs]
theorem all_map (S : Store) {α : Type} (p : α → Bool) (xs : List α) : gAll [.lst (xs.map fun x => D.bl (p x))] S = some (.bl (xs.all p)) := by
  simp only [gAll, bools_map, Option.map_some]
  congr 2
  induction xs with
  | nil => rfl
  | cons x xs ih => simp [ih]
theorem any_strs (s : Str) : ∀ ws : List Str, (ws.map D.str).any (fun z => deq z (.str s)) = ws.any (· == s)
  | [] => rfl
  | w :: ws => by simp only [List.map_cons, List.any_cons, deq_str, any_strs s ws]
theorem in_strs (S : Store) (neg : Bool) (s : Str) (ws : List Str) (hs : PyData.strOk s = true) (hw : ws.all PyData.strOk = true) : gIn neg (.str s) (.tup (ws.map .str)) S = some (.bl (xor neg (ws.any (· == s)))) := by
  have h : okD 12 (.tup (ws.map D.str)) = true := by
    simp only [okD, List.all_map]
    exact hw
  have h2 : okD 12 (.str s) = true := hs
  show (if okD 12 (.str s) && okD 12 (.tup (ws.map D.str)) then some (D.bl (xor neg ((ws.map D.str).any fun z => deq z (.str s)))) else none) = _
  rw [h, h2, any_strs]
  rfl
theorem not_str_any {d : D} (h : ∀ s, d ≠ .str s) : ∀ ws : List Str, (ws.map D.str).any (fun z => deq z d) = false
  | [] => rfl
  | w :: ws => by
    simp only [List.map_cons, List.any_cons, not_str_any h ws, Bool.or_false]
    cases d <;> first | exact absurd rfl (h _) | rfl
theorem in_strs_no (S : Store) (neg : Bool) {d : D} (ws : List Str) (hd : okD 12 d = true) (h : ∀ s, d ≠ .str s) (hw : ws.all PyData.strOk = true) : gIn neg d (.tup (ws.map .str)) S = some (.bl neg) := by
  have h1 : okD 12 (.tup (ws.map D.str)) = true := by
    simp only [okD, List.all_map]
    exact hw
  have : gIn neg d (.tup (ws.map .str)) S = (if okD 12 d && okD 12 (.tup (ws.map D.str)) then some (D.bl (xor neg ((ws.map D.str).any fun z => deq z d))) else none) := by cases d <;> rfl
  rw [this, h1, hd, not_str_any h]
  simp
theorem deq_no_str {d : D} (h : ∀ s, d ≠ .str s) (s : Str) : deq d (.str s) = false := by
  cases d <;> first | exact absurd rfl (h _) | rfl
end BW
namespace BW
open PySem PySem.Spec PyProof.Rows L2
def topS (i : Nat) : Stmt := PySem.Challenge.pw_boltwatch_k70_what_is_a_log.main.body.getD i (.Pass ⟨0, 0, 0, 0⟩)
structure Ct (K : PySem.W.Frag) (mg : Str → Option Value) : Prop where
  c_WORDS : ∃ a, mg "WORDS" = some (.ref a) ∧ ∀ w, R K w (.ref a) (.tup [(.str "arm"), (.str "lift"), (.str "opened"), (.str "closed"), (.str "moved"), (.str "wait")])
  c_MOST_NUMBER : ∃ t, mg "MOST_NUMBER" = some (.int 999999 t)
  triv : True
section
variable {P : Program} {w : World} {K : PySem.W.Frag} {mg : Str → Option Value} {base : Heap} {cl : Str → Addr}
abbrev st_is_number : Stmt := topS 1
abbrev nm_is_number : List Str := ["thing", "low", "high"]
def ss_is_number : Scope := scp [("thing", .local), ("low", .local), ("high", .local), ("isinstance", .globalImplicit), ("int", .globalImplicit), ("bool", .globalImplicit)] []
theorem sc_is_number : FnScope nm_is_number ["thing", "low", "high"] ss_is_number := ⟨rfl, rfl, rfl, by decide +kernel, rfl, by decide +kernel, by decide +kernel⟩
def g_is_number : Stm := (sRet (vAnd (fIsi isIntD (fV 0)) (vAnd (vNot (fIsi isBoolD (fV 0))) (fChain gLe gLe (fV 1) (fV 0) (fV 2)))))
def m_is_number : List D → Store → Res D := mOf 3 g_is_number
theorem fn_is_number {f : Addr} {fd : FuncData} (F : Fun K "is_number" "is_number" st_is_number f fd) (B : Bt mg) (C : Ct K mg) : FnOk P w K mg base (L2.CX P w) 1 f fd ["thing", "low", "high"] (spM K cl 3 m_is_number) :=
  Fun.fn (k := 0) (g := g_is_number) F (by rfl) (sc := ss_is_number) (by rfl) (by rfl) sc_is_number fun cdv A outer s H E e hr => by
    refine dss_one ?_
    refine ds_ret ?_
    exact (de_and (de_isi isT_int (de_v 0 (pv 0)) (by exact rfl) B.isinstance (by exact rfl) B.int bb_int) (de_and (de_not (de_isi isT_bool (de_v 0 (pv 0)) (by exact rfl) B.isinstance (by exact rfl) B.bool bb_bool)) (de_one (de_chain o_le o_le (de_v 1 (pv 1)) (de_v 0 (pv 0)) (de_v 2 (pv 2))))))
theorem ok_is_number {f : Addr} {fd : FuncData} (F : Fun K "is_number" "is_number" st_is_number f fd) (hb : Binds K fd ["thing", "low", "high"] []) (hm : mg "is_number" = some (.ref f)) (B : Bt mg) (C : Ct K mg) : Df P w K mg base cl 1 "is_number" ["thing", "low", "high"] m_is_number :=
  ⟨f, fd, fn_is_number F B C, hm, F.kp, hb⟩
abbrev st_is_entry : Stmt := topS 5
abbrev nm_is_entry : List Str := ["thing", "one"]
def ss_is_entry : Scope := scp [("thing", .local), ("isinstance", .globalImplicit), ("tuple", .globalImplicit), ("len", .globalImplicit), ("is_number", .globalImplicit), ("MOST_NUMBER", .globalImplicit), ("str", .globalImplicit), ("WORDS", .globalImplicit), ("all", .globalImplicit)] [("fast", .str "thing"), ("fast", .str "one")]
theorem sc_is_entry : FnScope nm_is_entry ["thing"] ss_is_entry := ⟨rfl, rfl, rfl, by decide +kernel, rfl, by decide +kernel, by decide +kernel⟩
def g_is_entry : Stm := (sSeq (sIf (fOr (fNot (fB (fIsi isTupD (fV 0)))) (fOr (fB (f2 (gEq true) (fN gLen (fCons (fV 0) fNil)) (fC (.int 3)))) (fNot (fB (fM 3 m_is_number (fCons (f2 gIx (fV 0) (fC (.int 0))) (fCons (fC (.int 0)) (fCons (fC (.int 999999)) fNil)))))))) (sRet (fC (.bl false))) sNil)
    (sSeq (sIf (fOr (fNot (fB (fIsi isStrD (f2 gIx (fV 0) (fC (.int 1)))))) (fB (f2 (gIn true) (f2 gIx (fV 0) (fC (.int 1))) (fC (.tup [(.str "arm"), (.str "lift"), (.str "opened"), (.str "closed"), (.str "moved"), (.str "wait")]))))) (sRet (fC (.bl false))) sNil)
    (sSeq (sIf (fB (f2 (gIn false) (f2 gIx (fV 0) (fC (.int 1))) (fTup (fCons (fC (.str "lift")) (fCons (fC (.str "wait")) fNil))))) (sRet (f2 (gIs false) (f2 gIx (fV 0) (fC (.int 2))) (fC .non))) sNil)
    (sSeq (sIf (fB (f2 (gEq true) (f2 gIx (fV 0) (fC (.int 1))) (fC (.str "arm")))) (sRet (fM 3 m_is_number (fCons (f2 gIx (fV 0) (fC (.int 2))) (fCons (fC (.int 0)) (fCons (fC (.int 9)) fNil))))) sNil)
    (sSeq (sIf (fOr (fNot (fB (fIsi isTupD (f2 gIx (fV 0) (fC (.int 2)))))) (fOr (fB (f2 (gEq true) (fN gLen (fCons (f2 gIx (fV 0) (fC (.int 2))) fNil)) (fC (.int 2)))) (fNot (fB (fIsi isTupD (f2 gIx (f2 gIx (fV 0) (fC (.int 2))) (fC (.int 1)))))))) (sRet (fC (.bl false))) sNil)
    (sRet (vAnd (fM 3 m_is_number (fCons (f2 gIx (f2 gIx (fV 0) (fC (.int 2))) (fC (.int 0))) (fCons (fC (.int 0)) (fCons (fC (.int 2)) fNil)))) (fN gAll (fCons (fFrz (fComp (fItems (f2 gIx (f2 gIx (fV 0) (fC (.int 2))) (fC (.int 1)))) (tgName 1) fYes (fM 3 m_is_number (fCons (fV 1) (fCons (fC (.int 0)) (fCons (fC (.int 11)) fNil)))) [1])) fNil)))))))))
def m_is_entry : List D → Store → Res D := mOf 2 g_is_entry
theorem fn_is_entry {f : Addr} {fd : FuncData} (F : Fun K "is_entry" "is_entry" st_is_entry f fd) (B : Bt mg) (C : Ct K mg) (d_is_number : Df P w K mg base cl 1 "is_number" ["thing", "low", "high"] m_is_number) : FnOk P w K mg base (L2.CX P w) 2 f fd ["thing"] (spM K cl 1 m_is_entry) :=
  Fun.fn (k := 1) (g := g_is_entry) F (by rfl) (sc := ss_is_entry) (by rfl) (by rfl) sc_is_entry fun cdv A outer s H E e hr => by
    refine dss_cons ?_ ?_
    · refine ds_if ?_ ?_ ?_
      · exact (DW.pt (dw_or (dt_not (dt_val (de_isi isT_tup (de_v 0 (pv 0)) (by exact rfl) B.isinstance (by exact rfl) B.tuple bb_tuple))) (dw_or (dt_cmp (o_ne hr.units) (de_callB c_len (by exact rfl) B.len bb_len (da_cons (de_v 0 (pv 0)) da_nil)) de_int (nomark _)) (dw_or1 (dt_not (dt_val (de_call d_is_number hr (by decide) (by exact rfl) (by exact takes_of rfl rfl rfl rfl) (da_cons (de_ix (u1 hr) (de_v 0 (pv 0)) de_int) (da_cons de_int (da_cons (de_gint' (by exact rfl) C.c_MOST_NUMBER) da_nil))))))))))
      · refine dss_one ?_
        refine ds_ret ?_
        exact de_bl
      · exact dss_nil
    refine dss_cons ?_ ?_
    · refine ds_if ?_ ?_ ?_
      · exact (DW.pt (dw_or (dt_not (dt_val (de_isi isT_str (de_ix (u1 hr) (de_v 0 (pv 0)) de_int) (by exact rfl) B.isinstance (by exact rfl) B.str bb_str))) (dw_or1 (dt_cmp (o_notin (u65 hr)) (de_ix (u1 hr) (de_v 0 (pv 0)) de_int) (de_gtup' (by exact rfl) C.c_WORDS) (by exact rfl)))))
      · refine dss_one ?_
        refine ds_ret ?_
        exact de_bl
      · exact dss_nil
    refine dss_cons ?_ ?_
    · refine ds_if ?_ ?_ ?_
      · exact (dt_cmp (o_in (u65 hr)) (de_ix (u1 hr) (de_v 0 (pv 0)) de_int) (de_tup (da_cons de_str (da_cons de_str da_nil))) (by exact rfl))
      · refine dss_one ?_
        refine ds_ret ?_
        exact (de_cmp o_is (de_ix (u1 hr) (de_v 0 (pv 0)) de_int) de_non (nomark _))
      · exact dss_nil
    refine dss_cons ?_ ?_
    · refine ds_if ?_ ?_ ?_
      · exact (dt_cmp (o_ne hr.units) (de_ix (u1 hr) (de_v 0 (pv 0)) de_int) de_str (nomark _))
      · refine dss_one ?_
        refine ds_ret ?_
        exact (de_call d_is_number hr (by decide) (by exact rfl) (by exact takes_of rfl rfl rfl rfl) (da_cons (de_ix (u1 hr) (de_v 0 (pv 0)) de_int) (da_cons de_int (da_cons de_int da_nil))))
      · exact dss_nil
    refine dss_cons ?_ ?_
    · refine ds_if ?_ ?_ ?_
      · exact (DW.pt (dw_or (dt_not (dt_val (de_isi isT_tup (de_ix (u1 hr) (de_v 0 (pv 0)) de_int) (by exact rfl) B.isinstance (by exact rfl) B.tuple bb_tuple))) (dw_or (dt_cmp (o_ne hr.units) (de_callB c_len (by exact rfl) B.len bb_len (da_cons (de_ix (u1 hr) (de_v 0 (pv 0)) de_int) da_nil)) de_int (nomark _)) (dw_or1 (dt_not (dt_val (de_isi isT_tup (de_ix (u1 hr) (de_ix (u1 hr) (de_v 0 (pv 0)) de_int) de_int) (by exact rfl) B.isinstance (by exact rfl) B.tuple bb_tuple)))))))
      · refine dss_one ?_
        refine ds_ret ?_
        exact de_bl
      · exact dss_nil
    refine dss_one ?_
    refine ds_ret ?_
    exact (de_and (de_call d_is_number hr (by decide) (by exact rfl) (by exact takes_of rfl rfl rfl rfl) (da_cons (de_ix (u1 hr) (de_ix (u1 hr) (de_v 0 (pv 0)) de_int) de_int) (da_cons de_int (da_cons de_int da_nil)))) (de_one (de_callB (c_all (by exact rfl)) (by exact rfl) B.all bb_all (da_cons (DL.de (dl_comp (by exact rfl) sc_is_entry.nd (di_seq (de_ix (u1 hr) (de_ix (u1 hr) (de_v 0 (pv 0)) de_int) de_int)) (by exact blkOk_by (N := nm_is_entry) (sc := ss_is_entry) (own := [("one", 1)]) (by decide +kernel)) (fun _ _ _ _ _ => (eg_name (i := 1) (by decide) sc_is_entry.nd (by exact rfl) (by first | exact Or.inl rfl | exact Or.inr rfl))) (fun _ _ _ _ _ => dts_nil) (fun _ _ _ _ _ => (de_call d_is_number hr (by decide) (by exact rfl) takes0 (da_cons (de_v 1 (pv 1)) (da_cons de_int (da_cons de_int da_nil))))))) da_nil))))
theorem ok_is_entry {f : Addr} {fd : FuncData} (F : Fun K "is_entry" "is_entry" st_is_entry f fd) (hb : Binds K fd ["thing"] []) (hm : mg "is_entry" = some (.ref f)) (B : Bt mg) (C : Ct K mg) (d_is_number : Df P w K mg base cl 1 "is_number" ["thing", "low", "high"] m_is_number) : Df P w K mg base cl 2 "is_entry" ["thing"] m_is_entry :=
  ⟨f, fd, fn_is_entry F B C d_is_number, hm, F.kp, hb⟩
abbrev st_is_log : Stmt := topS 6
abbrev nm_is_log : List Str := ["thing", "one", "other", "row"]
def ss_is_log : Scope := scp [("thing", .local), ("isinstance", .globalImplicit), ("list", .globalImplicit), ("all", .globalImplicit), ("zip", .globalImplicit)] [("fast", .str "thing"), ("fast", .str "row"), ("fast", .str "one"), ("fast", .str "other")]
theorem sc_is_log : FnScope nm_is_log ["thing"] ss_is_log := ⟨rfl, rfl, rfl, by decide +kernel, rfl, by decide +kernel, by decide +kernel⟩
def g_is_log : Stm := (sSeq (sIf (fOr (fNot (fB (fIsi isLstD (fV 0)))) (fNot (fB (fN gAll (fCons (fFrz (fComp (fItems (fV 0)) (tgName 3) fYes (fM 1 m_is_entry (fCons (fV 3) fNil)) [3])) fNil))))) (sRet (fC (.bl false))) sNil)
    (sRet (fN gAll (fCons (fFrz (fComp (fI kZip (fCons (fV 0) (fCons (fCut (fV 0) (oSome (fC (.int 1))) oNone) fNil))) (tgTup 2 (tgCons (tgName 1) (tgCons (tgName 2) tgNil))) fYes (f2 gLe (f2 gIx (fV 1) (fC (.int 0))) (f2 gIx (fV 2) (fC (.int 0)))) [1, 2])) fNil))))
def m_is_log : List D → Store → Res D := mOf 4 g_is_log
theorem fn_is_log {f : Addr} {fd : FuncData} (F : Fun K "is_log" "is_log" st_is_log f fd) (B : Bt mg) (C : Ct K mg) (d_is_entry : Df P w K mg base cl 2 "is_entry" ["thing"] m_is_entry) : FnOk P w K mg base (L2.CX P w) 3 f fd ["thing"] (spM K cl 1 m_is_log) :=
  Fun.fn (k := 2) (g := g_is_log) F (by rfl) (sc := ss_is_log) (by rfl) (by rfl) sc_is_log fun cdv A outer s H E e hr => by
    refine dss_cons ?_ ?_
    · refine ds_if ?_ ?_ ?_
      · exact (DW.pt (dw_or (dt_not (dt_val (de_isi isT_lst (de_v 0 (pv 0)) (by exact rfl) B.isinstance (by exact rfl) B.list bb_list))) (dw_or1 (dt_not (dt_val (de_callB (c_all (by exact rfl)) (by exact rfl) B.all bb_all (da_cons (DL.de (dl_comp (by exact rfl) sc_is_log.nd (di_seq (de_v 0 (pv 0))) (by exact blkOk_by (N := nm_is_log) (sc := ss_is_log) (own := [("row", 3)]) (by decide +kernel)) (fun _ _ _ _ _ => (eg_name (i := 3) (by decide) sc_is_log.nd (by exact rfl) (by first | exact Or.inl rfl | exact Or.inr rfl))) (fun _ _ _ _ _ => dts_nil) (fun _ _ _ _ _ => (de_call d_is_entry hr (by decide) (by exact rfl) takes0 (da_cons (de_v 3 (pv 3)) da_nil))))) da_nil)))))))
      · refine dss_one ?_
        refine ds_ret ?_
        exact de_bl
      · exact dss_nil
    refine dss_one ?_
    refine ds_ret ?_
    exact (de_callB (c_all (by exact rfl)) (by exact rfl) B.all bb_all (da_cons (DL.de (dl_comp (by exact rfl) sc_is_log.nd (di_zip (by exact rfl) B.zip (da_cons (de_v 0 (pv 0)) (da_cons (de_cut (de_v 0 (pv 0)) (do_some de_int) do_none) da_nil))) (by exact blkOk_by (N := nm_is_log) (sc := ss_is_log) (own := [("one", 1), ("other", 2)]) (by decide +kernel)) (fun _ _ _ _ _ => (eg_tup (by exact rfl) (egs_cons (eg_name (i := 1) (by decide) sc_is_log.nd (by exact rfl) (by first | exact Or.inl rfl | exact Or.inr rfl)) (egs_cons (eg_name (i := 2) (by decide) sc_is_log.nd (by exact rfl) (by first | exact Or.inl rfl | exact Or.inr rfl)) egs_nil)))) (fun _ _ _ _ _ => dts_nil) (fun _ _ _ _ _ => (de_cmp o_le (de_ix (u1 hr) (de_v 1 (pv 1)) de_int) (de_ix (u1 hr) (de_v 2 (pv 2)) de_int) (nomark _))))) da_nil))
theorem ok_is_log {f : Addr} {fd : FuncData} (F : Fun K "is_log" "is_log" st_is_log f fd) (hb : Binds K fd ["thing"] []) (hm : mg "is_log" = some (.ref f)) (B : Bt mg) (C : Ct K mg) (d_is_entry : Df P w K mg base cl 2 "is_entry" ["thing"] m_is_entry) : Df P w K mg base cl 3 "is_log" ["thing"] m_is_log :=
  ⟨f, fd, fn_is_log F B C d_is_entry, hm, F.kp, hb⟩
abbrev st_law_cell : Stmt := topS 8
abbrev nm_law_cell : List Str := ["script", "k"]
def ss_law_cell : Scope := scp [("script", .local), ("k", .local), ("len", .globalImplicit)] []
theorem sc_law_cell : FnScope nm_law_cell ["script", "k"] ss_law_cell := ⟨rfl, rfl, rfl, by decide +kernel, rfl, by decide +kernel, by decide +kernel⟩
def g_law_cell : Stm := (sSeq (sIf (fB (f2 (gEq false) (fV 0) (fLst fNil))) (sRet (f2 gMul (fC (.int 7)) (fV 1))) sNil)
    (sRet (f2 gAdd (f2 gIx (fV 0) (f2 gMod (fV 1) (fN gLen (fCons (fV 0) fNil)))) (f2 gMul (fC (.int 6553)) (f2 gFdiv (fV 1) (fN gLen (fCons (fV 0) fNil)))))))
def m_law_cell : List D → Store → Res D := mOf 2 g_law_cell
theorem fn_law_cell {f : Addr} {fd : FuncData} (F : Fun K "_law_cell" "_law_cell" st_law_cell f fd) (B : Bt mg) (C : Ct K mg) : FnOk P w K mg base (L2.CX P w) 1 f fd ["script", "k"] (spM K cl 2 m_law_cell) :=
  Fun.fn (k := 0) (g := g_law_cell) F (by rfl) (sc := ss_law_cell) (by rfl) (by rfl) sc_law_cell fun cdv A outer s H E e hr => by
    refine dss_cons ?_ ?_
    · refine ds_if ?_ ?_ ?_
      · exact (dt_cmp (o_eq hr.units) (de_v 0 (pv 0)) (de_lst da_nil) (nomark _))
      · refine dss_one ?_
        refine ds_ret ?_
        exact (de_bin o_mul de_int (de_v 1 (pv 1)))
      · exact dss_nil
    refine dss_one ?_
    refine ds_ret ?_
    exact (de_bin o_add (de_ix (u1 hr) (de_v 0 (pv 0)) (de_bin o_mod (de_v 1 (pv 1)) (de_callB c_len (by exact rfl) B.len bb_len (da_cons (de_v 0 (pv 0)) da_nil)))) (de_bin o_mul de_int (de_bin o_fdiv (de_v 1 (pv 1)) (de_callB c_len (by exact rfl) B.len bb_len (da_cons (de_v 0 (pv 0)) da_nil)))))
theorem ok_law_cell {f : Addr} {fd : FuncData} (F : Fun K "_law_cell" "_law_cell" st_law_cell f fd) (hb : Binds K fd ["script", "k"] []) (hm : mg "_law_cell" = some (.ref f)) (B : Bt mg) (C : Ct K mg) : Df P w K mg base cl 1 "_law_cell" ["script", "k"] m_law_cell :=
  ⟨f, fd, fn_law_cell F B C, hm, F.kp, hb⟩
abbrev st_law_drawn : Stmt := topS 9
abbrev nm_law_drawn : List Str := ["script", "k", "many", "cell"]
def ss_law_drawn : Scope := scp [("script", .local), ("k", .local), ("many", .local), ("cell", .local), ("_law_cell", .globalImplicit)] []
theorem sc_law_drawn : FnScope nm_law_drawn ["script", "k", "many"] ss_law_drawn := ⟨rfl, rfl, rfl, by decide +kernel, rfl, by decide +kernel, by decide +kernel⟩
def g_law_drawn : Stm := (sSeq (sSet 3 (f2 gMod (f2 gAdd (f2 gMul (f2 gMod (fM 2 m_law_cell (fCons (fV 0) (fCons (fV 1) fNil))) (fC (.int 2147483563))) (fC (.int 69069))) (f2 gMul (fC (.int 104723)) (f2 gAdd (fV 1) (fC (.int 1))))) (fC (.int 2147483563))))
    (sSeq (sSet 3 (f2 gMod (f2 gAdd (f2 gMul (fV 3) (fV 3)) (f2 gFdiv (fV 3) (fC (.int 3)))) (fC (.int 2147483399))))
    (sRet (f2 gMod (f2 gFdiv (f2 gMod (f2 gAdd (f2 gMul (fV 3) (fV 3)) (f2 gFdiv (fV 3) (fC (.int 7)))) (fC (.int 2147483647))) (fC (.int 11))) (fV 2)))))
def m_law_drawn : List D → Store → Res D := mOf 4 g_law_drawn
theorem fn_law_drawn {f : Addr} {fd : FuncData} (F : Fun K "_law_drawn" "_law_drawn" st_law_drawn f fd) (B : Bt mg) (C : Ct K mg) (d_law_cell : Df P w K mg base cl 1 "_law_cell" ["script", "k"] m_law_cell) : FnOk P w K mg base (L2.CX P w) 2 f fd ["script", "k", "many"] (spM K cl 3 m_law_drawn) :=
  Fun.fn (k := 1) (g := g_law_drawn) F (by rfl) (sc := ss_law_drawn) (by rfl) (by rfl) sc_law_drawn fun cdv A outer s H E e hr => by
    refine dss_cons ?_ ?_
    · refine ds_set (i := 3) sc_law_drawn.nd (by exact rfl) (by exact (Or.inl rfl)) ?_
      exact (de_bin o_mod (de_bin o_add (de_bin o_mul (de_bin o_mod (de_call d_law_cell hr (by decide) (by exact rfl) (by exact takes_of rfl rfl rfl rfl) (da_cons (de_v 0 (pv 0)) (da_cons (de_v 1 (pv 1)) da_nil))) de_int) de_int) (de_bin o_mul de_int (de_bin o_add (de_v 1 (pv 1)) de_int))) de_int)
    refine dss_cons ?_ ?_
    · refine ds_set (i := 3) sc_law_drawn.nd (by exact rfl) (by exact (Or.inl rfl)) ?_
      exact (de_bin o_mod (de_bin o_add (de_bin o_mul (de_v 3 (pv 3)) (de_v 3 (pv 3))) (de_bin o_fdiv (de_v 3 (pv 3)) de_int)) de_int)
    refine dss_one ?_
    refine ds_ret ?_
    exact (de_bin o_mod (de_bin o_fdiv (de_bin o_mod (de_bin o_add (de_bin o_mul (de_v 3 (pv 3)) (de_v 3 (pv 3))) (de_bin o_fdiv (de_v 3 (pv 3)) de_int)) de_int) de_int) (de_v 2 (pv 2)))
theorem ok_law_drawn {f : Addr} {fd : FuncData} (F : Fun K "_law_drawn" "_law_drawn" st_law_drawn f fd) (hb : Binds K fd ["script", "k", "many"] []) (hm : mg "_law_drawn" = some (.ref f)) (B : Bt mg) (C : Ct K mg) (d_law_cell : Df P w K mg base cl 1 "_law_cell" ["script", "k"] m_law_cell) : Df P w K mg base cl 2 "_law_drawn" ["script", "k", "many"] m_law_drawn :=
  ⟨f, fd, fn_law_drawn F B C d_law_cell, hm, F.kp, hb⟩
abbrev st_law_log : Stmt := topS 10
abbrev nm_law_log : List Str := ["script", "at", "found", "moment", "k", "here", "word", "what", "eyes", "j"]
def ss_law_log : Scope := scp [("script", .cell), ("at", .local), ("found", .local), ("moment", .local), ("k", .local), ("here", .cell), ("word", .local), ("what", .local), ("eyes", .local), ("_law_drawn", .globalImplicit), ("range", .globalImplicit), ("tuple", .globalImplicit)] [("fast", .str "script"), ("fast", .str "at"), ("fast", .str "found"), ("fast", .str "moment"), ("fast", .str "k"), ("fast", .str "here"), ("fast", .str "word"), ("fast", .str "what"), ("fast", .str "j"), ("fast", .str "eyes")]
theorem sc_law_log : FnScope nm_law_log ["script", "at"] ss_law_log := ⟨rfl, rfl, rfl, by decide +kernel, rfl, by decide +kernel, by decide +kernel⟩
def b_law_log_1 : Stm := (sSeq (sSet 5 (f2 gAdd (f2 gAdd (fV 1) (fC (.int 2))) (f2 gMul (fC (.int 8)) (fV 4))))
    (sSeq (sSet 3 (f2 gAdd (fV 3) (f2 gIx (fLst (fCons (fC (.int 0)) (fCons (fC (.int 1)) (fCons (fC (.int 40)) fNil)))) (fM 3 m_law_drawn (fCons (fV 0) (fCons (fV 5) (fCons (fC (.int 3)) fNil)))))))
    (sSeq (sSet 6 (f2 gIx (fLst (fCons (fC (.str "arm")) (fCons (fC (.str "lift")) (fCons (fC (.str "opened")) (fCons (fC (.str "closed")) (fCons (fC (.str "moved")) (fCons (fC (.str "wait")) fNil))))))) (fM 3 m_law_drawn (fCons (fV 0) (fCons (f2 gAdd (fV 5) (fC (.int 1))) (fCons (fC (.int 6)) fNil))))))
    (sSeq (sSet 7 (fIf (fB (f2 (gIn false) (fV 6) (fTup (fCons (fC (.str "lift")) (fCons (fC (.str "wait")) fNil))))) (fC .non) (fM 3 m_law_drawn (fCons (fV 0) (fCons (f2 gAdd (fV 5) (fC (.int 2))) (fCons (fC (.int 10)) fNil))))))
    (sSeq (sIf (fB (f2 (gEq false) (fV 6) (fC (.str "arm")))) (sSeq (sSet 8 (fN gTuple (fCons (fFrz (fComp (fI kRng1 (fCons (fM 3 m_law_drawn (fCons (fV 0) (fCons (f2 gAdd (fV 5) (fC (.int 3))) (fCons (fC (.int 4)) fNil)))) fNil)) (tgName 9) fYes (fM 3 m_law_drawn (fCons (fV 0) (fCons (f2 gAdd (f2 gAdd (fV 5) (fC (.int 4))) (fV 9)) (fCons (fC (.int 12)) fNil)))) [9])) fNil)))
    (sSet 7 (fTup (fCons (fM 3 m_law_drawn (fCons (fV 0) (fCons (f2 gAdd (fV 5) (fC (.int 2))) (fCons (fC (.int 3)) fNil)))) (fCons (fV 8) fNil))))) sNil)
    (sAppend 2 (fCons (fTup (fCons (fV 3) (fCons (fV 6) (fCons (fV 7) fNil)))) fNil)))))))
def g_law_log : Stm := (sSeq (sSetOwn 2 (fNew fNil))
    (sSeq (sSet 3 (fM 3 m_law_drawn (fCons (fV 0) (fCons (fV 1) (fCons (fC (.int 50)) fNil)))))
    (sSeq (sFor (fI kRng1 (fCons (fM 3 m_law_drawn (fCons (fV 0) (fCons (f2 gAdd (fV 1) (fC (.int 1))) (fCons (fC (.int 9)) fNil)))) fNil)) (tgName 4) b_law_log_1)
    (sFreeze 2 (sRet (fV 2))))))
def m_law_log : List D → Store → Res D := mOf 10 g_law_log
theorem fn_law_log {f : Addr} {fd : FuncData} (F : Fun K "_law_log" "_law_log" st_law_log f fd) (B : Bt mg) (C : Ct K mg) (d_law_drawn : Df P w K mg base cl 2 "_law_drawn" ["script", "k", "many"] m_law_drawn) : FnOk P w K mg base (L2.CX P w) 3 f fd ["script", "at"] (spM K cl 2 m_law_log) :=
  Fun.fn (k := 2) (g := g_law_log) F (by rfl) (sc := ss_law_log) (by rfl) (by rfl) sc_law_log fun cdv A outer s H E e hr => by
    refine dss_cons ?_ ?_
    · refine ds_setOwn (i := 2) sc_law_log.nd (by exact rfl) (by exact (Or.inl rfl)) ?_
      exact (dl_new da_nil)
    refine dss_cons ?_ ?_
    · refine ds_set (i := 3) sc_law_log.nd (by exact rfl) (by exact (Or.inl rfl)) ?_
      exact (de_call d_law_drawn hr (by decide) (by exact rfl) (by exact takes_of rfl rfl rfl rfl) (da_cons (de_v 0 (pv 0)) (da_cons (de_v 1 (pv 1)) (da_cons de_int da_nil))))
    refine dss_cons ?_ ?_
    · refine ds_for (by exact passes_of rfl) (by exact rfl) ?_ ?_ ?_
      · exact (di_rng1 (by exact rfl) B.range (da_cons (de_call d_law_drawn hr (by decide) (by exact rfl) (by exact takes_of rfl rfl rfl rfl) (da_cons (de_v 0 (pv 0)) (da_cons (de_bin o_add (de_v 1 (pv 1)) de_int) (da_cons de_int da_nil)))) da_nil))
      · exact (dg_name (i := 4) sc_law_log.nd (by exact rfl) (by exact (Or.inl rfl)))
      · refine dss_cons ?_ ?_
        · refine ds_set (i := 5) sc_law_log.nd (by exact rfl) (by exact (Or.inr rfl)) ?_
          exact (de_bin o_add (de_bin o_add (de_v 1 (pv 1)) de_int) (de_bin o_mul de_int (de_v 4 (pv 4))))
        refine dss_cons ?_ ?_
        · refine ds_set (i := 3) sc_law_log.nd (by exact rfl) (by exact (Or.inl rfl)) ?_
          exact (de_bin o_add (de_v 3 (pv 3)) (de_ix (u1 hr) (de_lst (da_cons de_int (da_cons de_int (da_cons de_int da_nil)))) (de_call d_law_drawn hr (by decide) (by exact rfl) (by exact takes_of rfl rfl rfl rfl) (da_cons (de_v 0 (pv 0)) (da_cons (de_v 5 (pv 5)) (da_cons de_int da_nil))))))
        refine dss_cons ?_ ?_
        · refine ds_set (i := 6) sc_law_log.nd (by exact rfl) (by exact (Or.inl rfl)) ?_
          exact (de_ix (u1 hr) (de_lst (da_cons de_str (da_cons de_str (da_cons de_str (da_cons de_str (da_cons de_str (da_cons de_str da_nil))))))) (de_call d_law_drawn hr (by decide) (by exact rfl) (by exact takes_of rfl rfl rfl rfl) (da_cons (de_v 0 (pv 0)) (da_cons (de_bin o_add (de_v 5 (pv 5)) de_int) (da_cons de_int da_nil)))))
        refine dss_cons ?_ ?_
        · refine ds_set (i := 7) sc_law_log.nd (by exact rfl) (by exact (Or.inl rfl)) ?_
          exact (de_ifExp (dt_cmp (o_in (u65 hr)) (de_v 6 (pv 6)) (de_tup (da_cons de_str (da_cons de_str da_nil))) (by exact rfl)) de_non (de_call d_law_drawn hr (by decide) (by exact rfl) (by exact takes_of rfl rfl rfl rfl) (da_cons (de_v 0 (pv 0)) (da_cons (de_bin o_add (de_v 5 (pv 5)) de_int) (da_cons de_int da_nil)))))
        refine dss_cons ?_ ?_
        · refine ds_if ?_ ?_ ?_
          · exact (dt_cmp (o_eq hr.units) (de_v 6 (pv 6)) de_str (nomark _))
          · refine dss_cons ?_ ?_
            · refine ds_set (i := 8) sc_law_log.nd (by exact rfl) (by exact (Or.inl rfl)) ?_
              exact (de_callTy c_tuple (by exact rfl) B.tuple bb_tuple (da_cons (DL.de (dl_comp (by exact rfl) sc_law_log.nd (di_rng1 (by exact rfl) B.range (da_cons (de_call d_law_drawn hr (by decide) (by exact rfl) (by exact takes_of rfl rfl rfl rfl) (da_cons (de_v 0 (pv 0)) (da_cons (de_bin o_add (de_v 5 (pv 5)) de_int) (da_cons de_int da_nil)))) da_nil)) (by exact blkOk_by (N := nm_law_log) (sc := ss_law_log) (own := [("j", 9)]) (by decide +kernel)) (fun _ _ _ _ _ => (eg_name (i := 9) (by decide) sc_law_log.nd (by exact rfl) (by first | exact Or.inl rfl | exact Or.inr rfl))) (fun _ _ _ _ _ => dts_nil) (fun _ _ _ _ _ => (de_call d_law_drawn hr (by decide) (by exact rfl) takes0 (da_cons (de_v 0 (pv 0)) (da_cons (de_bin o_add (de_bin o_add (de_v 5 (pv 5)) de_int) (de_v 9 (pv 9))) (da_cons de_int da_nil))))))) da_nil))
            refine dss_one ?_
            refine ds_set (i := 7) sc_law_log.nd (by exact rfl) (by exact (Or.inl rfl)) ?_
            exact (de_tup (da_cons (de_call d_law_drawn hr (by decide) (by exact rfl) (by exact takes_of rfl rfl rfl rfl) (da_cons (de_v 0 (pv 0)) (da_cons (de_bin o_add (de_v 5 (pv 5)) de_int) (da_cons de_int da_nil)))) (da_cons (de_v 8 (pv 8)) da_nil)))
          · exact dss_nil
        refine dss_one ?_
        refine ds_append (pv 2) ?_
        exact (da_cons (de_tup (da_cons (de_v 3 (pv 3)) (da_cons (de_v 6 (pv 6)) (da_cons (de_v 7 (pv 7)) da_nil)))) da_nil)
    refine dss_freeze 2 ?_
    refine dss_one ?_
    refine ds_ret ?_
    exact (de_v 2 (pv 2))
theorem ok_law_log {f : Addr} {fd : FuncData} (F : Fun K "_law_log" "_law_log" st_law_log f fd) (hb : Binds K fd ["script", "at"] []) (hm : mg "_law_log" = some (.ref f)) (B : Bt mg) (C : Ct K mg) (d_law_drawn : Df P w K mg base cl 2 "_law_drawn" ["script", "k", "many"] m_law_drawn) : Df P w K mg base cl 3 "_law_log" ["script", "at"] m_law_log :=
  ⟨f, fd, fn_law_log F B C d_law_drawn, hm, F.kp, hb⟩
abbrev st_law_is : Stmt := topS 11
abbrev nm_law_is : List Str := ["thing", "many"]
def ss_law_is : Scope := scp [("thing", .local), ("many", .local), ("isinstance", .globalImplicit), ("int", .globalImplicit), ("bool", .globalImplicit)] []
theorem sc_law_is : FnScope nm_law_is ["thing", "many"] ss_law_is := ⟨rfl, rfl, rfl, by decide +kernel, rfl, by decide +kernel, by decide +kernel⟩
def g_law_is : Stm := (sRet (vAnd (fIsi isIntD (fV 0)) (vAnd (vNot (fIsi isBoolD (fV 0))) (fChain gLe gLt (fC (.int 0)) (fV 0) (fV 1)))))
def m_law_is : List D → Store → Res D := mOf 2 g_law_is
theorem fn_law_is {f : Addr} {fd : FuncData} (F : Fun K "_law_is" "_law_is" st_law_is f fd) (B : Bt mg) (C : Ct K mg) : FnOk P w K mg base (L2.CX P w) 1 f fd ["thing", "many"] (spM K cl 2 m_law_is) :=
  Fun.fn (k := 0) (g := g_law_is) F (by rfl) (sc := ss_law_is) (by rfl) (by rfl) sc_law_is fun cdv A outer s H E e hr => by
    refine dss_one ?_
    refine ds_ret ?_
    exact (de_and (de_isi isT_int (de_v 0 (pv 0)) (by exact rfl) B.isinstance (by exact rfl) B.int bb_int) (de_and (de_not (de_isi isT_bool (de_v 0 (pv 0)) (by exact rfl) B.isinstance (by exact rfl) B.bool bb_bool)) (de_one (de_chain o_le (o_lt hr.units) de_int (de_v 0 (pv 0)) (de_v 1 (pv 1))))))
theorem ok_law_is {f : Addr} {fd : FuncData} (F : Fun K "_law_is" "_law_is" st_law_is f fd) (hb : Binds K fd ["thing", "many"] []) (hm : mg "_law_is" = some (.ref f)) (B : Bt mg) (C : Ct K mg) : Df P w K mg base cl 1 "_law_is" ["thing", "many"] m_law_is :=
  ⟨f, fd, fn_law_is F B C, hm, F.kp, hb⟩
abbrev st_law_is_entry : Stmt := topS 12
abbrev nm_law_is_entry : List Str := ["row", "one"]
def ss_law_is_entry : Scope := scp [("row", .local), ("isinstance", .globalImplicit), ("tuple", .globalImplicit), ("len", .globalImplicit), ("_law_is", .globalImplicit)] [("fast", .str "row"), ("fast", .str "one")]
theorem sc_law_is_entry : FnScope nm_law_is_entry ["row"] ss_law_is_entry := ⟨rfl, rfl, rfl, by decide +kernel, rfl, by decide +kernel, by decide +kernel⟩
def g_law_is_entry : Stm := (sSeq (sIf (fOr (fNot (fB (fIsi isTupD (fV 0)))) (fOr (fB (f2 (gEq true) (fN gLen (fCons (fV 0) fNil)) (fC (.int 3)))) (fNot (fB (fM 2 m_law_is (fCons (f2 gIx (fV 0) (fC (.int 0))) (fCons (fC (.int 1000000)) fNil))))))) (sRet (fC (.bl false))) sNil)
    (sSeq (sIf (fB (f2 (gIn false) (f2 gIx (fV 0) (fC (.int 1))) (fTup (fCons (fC (.str "lift")) (fCons (fC (.str "wait")) fNil))))) (sRet (f2 (gIs false) (f2 gIx (fV 0) (fC (.int 2))) (fC .non))) sNil)
    (sSeq (sIf (fB (f2 (gIn false) (f2 gIx (fV 0) (fC (.int 1))) (fTup (fCons (fC (.str "opened")) (fCons (fC (.str "closed")) (fCons (fC (.str "moved")) fNil)))))) (sRet (fM 2 m_law_is (fCons (f2 gIx (fV 0) (fC (.int 2))) (fCons (fC (.int 10)) fNil)))) sNil)
    (sSeq (sIf (fOr (fB (f2 (gEq true) (f2 gIx (fV 0) (fC (.int 1))) (fC (.str "arm")))) (fOr (fNot (fB (fIsi isTupD (f2 gIx (fV 0) (fC (.int 2)))))) (fB (f2 (gEq true) (fN gLen (fCons (f2 gIx (fV 0) (fC (.int 2))) fNil)) (fC (.int 2)))))) (sRet (fC (.bl false))) sNil)
    (sSeq (sIf (fNot (fB (fM 2 m_law_is (fCons (f2 gIx (f2 gIx (fV 0) (fC (.int 2))) (fC (.int 0))) (fCons (fC (.int 3)) fNil))))) (sRet (fC (.bl false))) sNil)
    (sRet (vAnd (fIsi isTupD (f2 gIx (f2 gIx (fV 0) (fC (.int 2))) (fC (.int 1)))) (f2 (gEq false) (fFrz (fComp (fItems (f2 gIx (f2 gIx (fV 0) (fC (.int 2))) (fC (.int 1)))) (tgName 1) (fNot (fB (fM 2 m_law_is (fCons (fV 1) (fCons (fC (.int 12)) fNil))))) (fV 1) [1])) (fLst fNil)))))))))
def m_law_is_entry : List D → Store → Res D := mOf 2 g_law_is_entry
theorem fn_law_is_entry {f : Addr} {fd : FuncData} (F : Fun K "_law_is_entry" "_law_is_entry" st_law_is_entry f fd) (B : Bt mg) (C : Ct K mg) (d_law_is : Df P w K mg base cl 1 "_law_is" ["thing", "many"] m_law_is) : FnOk P w K mg base (L2.CX P w) 2 f fd ["row"] (spM K cl 1 m_law_is_entry) :=
  Fun.fn (k := 1) (g := g_law_is_entry) F (by rfl) (sc := ss_law_is_entry) (by rfl) (by rfl) sc_law_is_entry fun cdv A outer s H E e hr => by
    refine dss_cons ?_ ?_
    · refine ds_if ?_ ?_ ?_
      · exact (DW.pt (dw_or (dt_not (dt_val (de_isi isT_tup (de_v 0 (pv 0)) (by exact rfl) B.isinstance (by exact rfl) B.tuple bb_tuple))) (dw_or (dt_cmp (o_ne hr.units) (de_callB c_len (by exact rfl) B.len bb_len (da_cons (de_v 0 (pv 0)) da_nil)) de_int (nomark _)) (dw_or1 (dt_not (dt_val (de_call d_law_is hr (by decide) (by exact rfl) (by exact takes_of rfl rfl rfl rfl) (da_cons (de_ix (u1 hr) (de_v 0 (pv 0)) de_int) (da_cons de_int da_nil)))))))))
      · refine dss_one ?_
        refine ds_ret ?_
        exact de_bl
      · exact dss_nil
    refine dss_cons ?_ ?_
    · refine ds_if ?_ ?_ ?_
      · exact (dt_cmp (o_in (u65 hr)) (de_ix (u1 hr) (de_v 0 (pv 0)) de_int) (de_tup (da_cons de_str (da_cons de_str da_nil))) (by exact rfl))
      · refine dss_one ?_
        refine ds_ret ?_
        exact (de_cmp o_is (de_ix (u1 hr) (de_v 0 (pv 0)) de_int) de_non (nomark _))
      · exact dss_nil
    refine dss_cons ?_ ?_
    · refine ds_if ?_ ?_ ?_
      · exact (dt_cmp (o_in (u65 hr)) (de_ix (u1 hr) (de_v 0 (pv 0)) de_int) (de_tup (da_cons de_str (da_cons de_str (da_cons de_str da_nil)))) (by exact rfl))
      · refine dss_one ?_
        refine ds_ret ?_
        exact (de_call d_law_is hr (by decide) (by exact rfl) (by exact takes_of rfl rfl rfl rfl) (da_cons (de_ix (u1 hr) (de_v 0 (pv 0)) de_int) (da_cons de_int da_nil)))
      · exact dss_nil
    refine dss_cons ?_ ?_
    · refine ds_if ?_ ?_ ?_
      · exact (DW.pt (dw_or (dt_cmp (o_ne hr.units) (de_ix (u1 hr) (de_v 0 (pv 0)) de_int) de_str (nomark _)) (dw_or (dt_not (dt_val (de_isi isT_tup (de_ix (u1 hr) (de_v 0 (pv 0)) de_int) (by exact rfl) B.isinstance (by exact rfl) B.tuple bb_tuple))) (dw_or1 (dt_cmp (o_ne hr.units) (de_callB c_len (by exact rfl) B.len bb_len (da_cons (de_ix (u1 hr) (de_v 0 (pv 0)) de_int) da_nil)) de_int (nomark _))))))
      · refine dss_one ?_
        refine ds_ret ?_
        exact de_bl
      · exact dss_nil
    refine dss_cons ?_ ?_
    · refine ds_if ?_ ?_ ?_
      · exact (dt_not (dt_val (de_call d_law_is hr (by decide) (by exact rfl) (by exact takes_of rfl rfl rfl rfl) (da_cons (de_ix (u1 hr) (de_ix (u1 hr) (de_v 0 (pv 0)) de_int) de_int) (da_cons de_int da_nil)))))
      · refine dss_one ?_
        refine ds_ret ?_
        exact de_bl
      · exact dss_nil
    refine dss_one ?_
    refine ds_ret ?_
    exact (de_and (de_isi isT_tup (de_ix (u1 hr) (de_ix (u1 hr) (de_v 0 (pv 0)) de_int) de_int) (by exact rfl) B.isinstance (by exact rfl) B.tuple bb_tuple) (de_one (de_cmp (o_eq hr.units) (DL.de (dl_comp (by exact rfl) sc_law_is_entry.nd (di_seq (de_ix (u1 hr) (de_ix (u1 hr) (de_v 0 (pv 0)) de_int) de_int)) (by exact blkOk_by (N := nm_law_is_entry) (sc := ss_law_is_entry) (own := [("one", 1)]) (by decide +kernel)) (fun _ _ _ _ _ => (eg_name (i := 1) (by decide) sc_law_is_entry.nd (by exact rfl) (by first | exact Or.inl rfl | exact Or.inr rfl))) (fun _ _ _ _ _ => (dts_one (dt_not (dt_val (de_call d_law_is hr (by decide) (by exact rfl) takes0 (da_cons (de_v 1 (pv 1)) (da_cons de_int da_nil))))))) (fun _ _ _ _ _ => (de_v 1 (pv 1))))) (de_lst da_nil) (nomark _))))
theorem ok_law_is_entry {f : Addr} {fd : FuncData} (F : Fun K "_law_is_entry" "_law_is_entry" st_law_is_entry f fd) (hb : Binds K fd ["row"] []) (hm : mg "_law_is_entry" = some (.ref f)) (B : Bt mg) (C : Ct K mg) (d_law_is : Df P w K mg base cl 1 "_law_is" ["thing", "many"] m_law_is) : Df P w K mg base cl 2 "_law_is_entry" ["row"] m_law_is_entry :=
  ⟨f, fd, fn_law_is_entry F B C d_law_is, hm, F.kp, hb⟩
abbrev st_law : Stmt := topS 13
abbrev nm_law : List Str := ["script", "log", "turn", "odd", "spoilt", "at", "row", "part", "things", "words", "due", "told", "thing", "one"]
def ss_law : Scope := scp [("script", .local), ("log", .local), ("turn", .local), ("spoilt", .local), ("at", .local), ("row", .local), ("part", .local), ("things", .local), ("odd", .local), ("words", .local), ("due", .local), ("told", .local), ("_law_log", .globalImplicit), ("is_log", .globalImplicit), ("range", .globalImplicit), ("list", .globalImplicit), ("_law_drawn", .globalImplicit), ("len", .globalImplicit), ("sorted", .globalImplicit), ("isinstance", .globalImplicit), ("bool", .globalImplicit), ("tuple", .globalImplicit)] [("fast", .str "script"), ("fast", .str "log"), ("fast", .str "turn"), ("fast", .str "spoilt"), ("fast", .str "at"), ("fast", .str "row"), ("fast", .str "part"), ("fast", .str "things"), ("fast", .str "odd"), ("fast", .str "words"), ("fast", .str "one"), ("fast", .str "due"), ("fast", .str "told"), ("fast", .str "thing")]
theorem sc_law : FnScope nm_law ["script"] ss_law := ⟨rfl, rfl, rfl, by decide +kernel, rfl, by decide +kernel, by decide +kernel⟩
def b_law_1 : Stm := (sSeq (sSetOwn 4 (fAddL (fN gList (fCons (fV 1) fNil)) (fLst (fCons (fTup (fCons (fC (.int 999)) (fCons (fC (.str "arm")) (fCons (fTup (fCons (fC (.int 1)) (fCons (fTup (fCons (fC (.int 0)) (fCons (fC (.int 5)) fNil))) fNil))) fNil)))) fNil))))
    (sSeq (sSet 5 (fM 3 m_law_drawn (fCons (fV 0) (fCons (f2 gAdd (fC (.int 90)) (f2 gMul (fC (.int 5)) (fV 2))) (fCons (fLenOwn 4) fNil)))))
    (sSeq (sSet 6 (fIxOwn 4 (fV 5)))
    (sSeq (sSet 7 (fM 3 m_law_drawn (fCons (fV 0) (fCons (f2 gAdd (fC (.int 91)) (f2 gMul (fC (.int 5)) (fV 2))) (fCons (fC (.int 3)) fNil)))))
    (sSeq (sSet 8 (fLst (fCons (fC .non) (fCons (fC (.bl true)) (fCons (fC (.str "1")) (fCons (fNeg (fC (.int 1))) (fCons (fC (.int 1000000)) (fCons (fC (.int 999999)) (fCons (fC (.int 0)) (fCons (fC (.int 10)) (fCons (fTup (fCons (fC (.int 1)) (fCons (fTup (fCons (fC (.int 3)) fNil)) fNil))) (fCons (fTup (fCons (fC (.int 3)) (fCons (fTup fNil) fNil))) fNil))))))))))))
    (sSeq (sSet 8 (f2 gAdd (fV 8) (fLst (fCons (fTup (fCons (fC (.int 0)) (fCons (fTup (fCons (fC (.int 12)) fNil)) fNil))) (fCons (fTup (fCons (fC (.int 0)) (fCons (fLst (fCons (fC (.int 1)) fNil)) fNil))) (fCons (fTup (fCons (fC (.int 0)) fNil)) (fCons (fTup (fCons (fC (.bl true)) (fCons (fTup fNil) fNil))) fNil)))))))
    (sSeq (sSet 3 (f2 gIx (fV 8) (fM 3 m_law_drawn (fCons (fV 0) (fCons (f2 gAdd (fC (.int 92)) (f2 gMul (fC (.int 5)) (fV 2))) (fCons (fC (.int 14)) fNil))))))
    (sSeq (sSet 9 (fLst (fCons (fC (.str "arm")) (fCons (fC (.str "lift")) (fCons (fC (.str "opened")) (fCons (fC (.str "closed")) (fCons (fC (.str "moved")) (fCons (fC (.str "wait")) (fCons (fC (.str "go")) (fCons (fC .non) (fCons (fC (.int 5)) fNil)))))))))))
    (sSeq (sIf (fB (f2 (gEq false) (fV 7) (fC (.int 1)))) (sSet 3 (f2 gIx (fV 9) (fM 3 m_law_drawn (fCons (fV 0) (fCons (f2 gAdd (fC (.int 92)) (f2 gMul (fC (.int 5)) (fV 2))) (fCons (fC (.int 9)) fNil)))))) sNil)
    (sSeq (sPutOwn 4 (fV 5) (f2 gAdd (f2 gAdd (fCut (fV 6) oNone (oSome (fV 7))) (fTup (fCons (fV 3) fNil))) (fCut (fV 6) (oSome (f2 gAdd (fV 7) (fC (.int 1)))) oNone)))
    (sSeq (sIf (fB (f2 (gEq false) (fM 3 m_law_drawn (fCons (fV 0) (fCons (f2 gAdd (fC (.int 93)) (f2 gMul (fC (.int 5)) (fV 2))) (fCons (fC (.int 6)) fNil)))) (fC (.int 0)))) (sPutOwn 4 (fV 5) (f2 gIx (fLst (fCons (fN gList (fCons (fV 6) fNil)) (fCons (fCut (fV 6) oNone (oSome (fC (.int 2)))) (fCons (f2 gAdd (fV 6) (fTup (fCons (fC (.int 0)) fNil))) fNil)))) (fV 7))) sNil)
    (sFreeze 4 (sSeq (sSet 10 (f2 (gEq false) (fFrz (fComp (fItems (fV 4)) (tgName 13) (fNot (fB (fM 1 m_law_is_entry (fCons (fV 13) fNil)))) (fV 13) [13])) (fLst fNil)))
    (sSeq (sSet 10 (vAnd (fV 10) (f2 (gEq false) (fFrz (fComp (fItems (fV 4)) (tgName 13) fYes (f2 gIx (fV 13) (fC (.int 0))) [13])) (fN gSorted (fCons (fFrz (fComp (fItems (fV 4)) (tgName 13) fYes (f2 gIx (fV 13) (fC (.int 0))) [13])) fNil)))))
    (sSeq (sSet 11 (fM 1 m_is_log (fCons (fV 4) fNil)))
    (sIf (fOr (fNot (fB (fIsi isBoolD (fV 11)))) (fB (f2 (gEq true) (fV 11) (fV 10)))) (sRet (fC (.bl false))) sNil))))))))))))))))
def g_law : Stm := (sSeq (sSet 1 (fM 2 m_law_log (fCons (fV 0) (fCons (fC (.int 0)) fNil))))
    (sSeq (sIf (fOr (fB (f2 (gIs true) (fM 1 m_is_log (fCons (fV 1) fNil)) (fC (.bl true)))) (fB (f2 (gIs true) (fM 1 m_is_log (fCons (fLst fNil) fNil)) (fC (.bl true))))) (sRet (fC (.bl false))) sNil)
    (sSeq (sFor (fI kRng1 (fCons (fC (.int 4)) fNil)) (tgName 2) b_law_1)
    (sSeq (sSet 3 (fLst (fCons (fC .non) (fCons (fN gTuple (fCons (fV 1) fNil)) (fCons (fC (.str "log")) (fCons (fC (.int 5)) (fCons (fLst (fCons (fC .non) fNil)) (fCons (fLst (fCons (fLst fNil) fNil)) (fCons (fLst (fCons (fTup (fCons (fC (.int 5)) (fCons (fC (.str "wait")) fNil))) fNil)) (fCons (fLst (fCons (fTup (fCons (fC (.int 5)) (fCons (fC (.str "wait")) (fCons (fC .non) fNil)))) (fCons (fTup (fCons (fC (.int 4)) (fCons (fC (.str "wait")) (fCons (fC .non) fNil)))) fNil))) fNil))))))))))
    (sRet (f2 (gEq false) (fFrz (fComp (fItems (fV 3)) (tgName 12) (fB (f2 (gIs true) (fM 1 m_is_log (fCons (fV 12) fNil)) (fC (.bl false)))) (fV 12) [12])) (fLst fNil)))))))
def m_law : List D → Store → Res D := mOf 14 g_law
theorem fn_law {f : Addr} {fd : FuncData} (F : Fun K "law" "law" st_law f fd) (B : Bt mg) (C : Ct K mg) (d_law_log : Df P w K mg base cl 3 "_law_log" ["script", "at"] m_law_log) (d_is_log : Df P w K mg base cl 3 "is_log" ["thing"] m_is_log) (d_law_drawn : Df P w K mg base cl 2 "_law_drawn" ["script", "k", "many"] m_law_drawn) (d_law_is_entry : Df P w K mg base cl 2 "_law_is_entry" ["row"] m_law_is_entry) : FnOk P w K mg base (L2.CX P w) 4 f fd ["script"] (spM K cl 1 m_law) :=
  Fun.fn (k := 3) (g := g_law) F (by rfl) (sc := ss_law) (by rfl) (by rfl) sc_law fun cdv A outer s H E e hr => by
    refine dss_cons ?_ ?_
    · refine ds_set (i := 1) sc_law.nd (by exact rfl) (by exact (Or.inl rfl)) ?_
      exact (de_call d_law_log hr (by decide) (by exact rfl) (by exact takes_of rfl rfl rfl rfl) (da_cons (de_v 0 (pv 0)) (da_cons de_int da_nil)))
    refine dss_cons ?_ ?_
    · refine ds_if ?_ ?_ ?_
      · exact (DW.pt (dw_or (dt_cmp o_isnot (de_call d_is_log hr (by decide) (by exact rfl) (by exact takes_of rfl rfl rfl rfl) (da_cons (de_v 1 (pv 1)) da_nil)) de_bl (nomark _)) (dw_or1 (dt_cmp o_isnot (de_call d_is_log hr (by decide) (by exact rfl) (by exact takes_of rfl rfl rfl rfl) (da_cons (de_lst da_nil) da_nil)) de_bl (nomark _)))))
      · refine dss_one ?_
        refine ds_ret ?_
        exact de_bl
      · exact dss_nil
    refine dss_cons ?_ ?_
    · refine ds_for (by exact passes_of rfl) (by exact rfl) ?_ ?_ ?_
      · exact (di_rng1 (by exact rfl) B.range (da_cons de_int da_nil))
      · exact (dg_name (i := 2) sc_law.nd (by exact rfl) (by exact (Or.inl rfl)))
      · refine dss_cons ?_ ?_
        · refine ds_setOwn (i := 4) sc_law.nd (by exact rfl) (by exact (Or.inl rfl)) ?_
          exact (dl_add (de_callTy c_list (by exact rfl) B.list bb_list (da_cons (de_v 1 (pv 1)) da_nil)) (de_lst (da_cons (de_tup (da_cons de_int (da_cons de_str (da_cons (de_tup (da_cons de_int (da_cons (de_tup (da_cons de_int (da_cons de_int da_nil))) da_nil))) da_nil)))) da_nil)))
        refine dss_cons ?_ ?_
        · refine ds_set (i := 5) sc_law.nd (by exact rfl) (by exact (Or.inl rfl)) ?_
          exact (de_call d_law_drawn hr (by decide) (by exact rfl) (by exact takes_of rfl rfl rfl rfl) (da_cons (de_v 0 (pv 0)) (da_cons (de_bin o_add de_int (de_bin o_mul de_int (de_v 2 (pv 2)))) (da_cons (de_lenOwn (pv 4) (by exact rfl) B.len) da_nil))))
        refine dss_cons ?_ ?_
        · refine ds_set (i := 6) sc_law.nd (by exact rfl) (by exact (Or.inl rfl)) ?_
          exact (de_ixOwn (pv 4) (de_v 5 (pv 5)))
        refine dss_cons ?_ ?_
        · refine ds_set (i := 7) sc_law.nd (by exact rfl) (by exact (Or.inl rfl)) ?_
          exact (de_call d_law_drawn hr (by decide) (by exact rfl) (by exact takes_of rfl rfl rfl rfl) (da_cons (de_v 0 (pv 0)) (da_cons (de_bin o_add de_int (de_bin o_mul de_int (de_v 2 (pv 2)))) (da_cons de_int da_nil))))
        refine dss_cons ?_ ?_
        · refine ds_set (i := 8) sc_law.nd (by exact rfl) (by exact (Or.inl rfl)) ?_
          exact (de_lst (da_cons de_non (da_cons de_bl (da_cons de_str (da_cons (de_neg de_int) (da_cons de_int (da_cons de_int (da_cons de_int (da_cons de_int (da_cons (de_tup (da_cons de_int (da_cons (de_tup (da_cons de_int da_nil)) da_nil))) (da_cons (de_tup (da_cons de_int (da_cons (de_tup da_nil) da_nil))) da_nil)))))))))))
        refine dss_cons ?_ ?_
        · refine ds_set (i := 8) sc_law.nd (by exact rfl) (by exact (Or.inl rfl)) ?_
          exact (de_bin o_add (de_v 8 (pv 8)) (de_lst (da_cons (de_tup (da_cons de_int (da_cons (de_tup (da_cons de_int da_nil)) da_nil))) (da_cons (de_tup (da_cons de_int (da_cons (de_lst (da_cons de_int da_nil)) da_nil))) (da_cons (de_tup (da_cons de_int da_nil)) (da_cons (de_tup (da_cons de_bl (da_cons (de_tup da_nil) da_nil))) da_nil))))))
        refine dss_cons ?_ ?_
        · refine ds_set (i := 3) sc_law.nd (by exact rfl) (by exact (Or.inl rfl)) ?_
          exact (de_ix (u1 hr) (de_v 8 (pv 8)) (de_call d_law_drawn hr (by decide) (by exact rfl) (by exact takes_of rfl rfl rfl rfl) (da_cons (de_v 0 (pv 0)) (da_cons (de_bin o_add de_int (de_bin o_mul de_int (de_v 2 (pv 2)))) (da_cons de_int da_nil)))))
        refine dss_cons ?_ ?_
        · refine ds_set (i := 9) sc_law.nd (by exact rfl) (by exact (Or.inl rfl)) ?_
          exact (de_lst (da_cons de_str (da_cons de_str (da_cons de_str (da_cons de_str (da_cons de_str (da_cons de_str (da_cons de_str (da_cons de_non (da_cons de_int da_nil))))))))))
        refine dss_cons ?_ ?_
        · refine ds_if ?_ ?_ ?_
          · exact (dt_cmp (o_eq hr.units) (de_v 7 (pv 7)) de_int (nomark _))
          · refine dss_one ?_
            refine ds_set (i := 3) sc_law.nd (by exact rfl) (by exact (Or.inl rfl)) ?_
            exact (de_ix (u1 hr) (de_v 9 (pv 9)) (de_call d_law_drawn hr (by decide) (by exact rfl) (by exact takes_of rfl rfl rfl rfl) (da_cons (de_v 0 (pv 0)) (da_cons (de_bin o_add de_int (de_bin o_mul de_int (de_v 2 (pv 2)))) (da_cons de_int da_nil)))))
          · exact dss_nil
        refine dss_cons ?_ ?_
        · exact ds_putOwn (pv 4) (de_v 5 (pv 5)) (de_bin o_add (de_bin o_add (de_cut (de_v 6 (pv 6)) do_none (do_some (de_v 7 (pv 7)))) (de_tup (da_cons (de_v 3 (pv 3)) da_nil))) (de_cut (de_v 6 (pv 6)) (do_some (de_bin o_add (de_v 7 (pv 7)) de_int)) do_none))
        refine dss_cons ?_ ?_
        · refine ds_if ?_ ?_ ?_
          · exact (dt_cmp (o_eq hr.units) (de_call d_law_drawn hr (by decide) (by exact rfl) (by exact takes_of rfl rfl rfl rfl) (da_cons (de_v 0 (pv 0)) (da_cons (de_bin o_add de_int (de_bin o_mul de_int (de_v 2 (pv 2)))) (da_cons de_int da_nil)))) de_int (nomark _))
          · refine dss_one ?_
            exact ds_putOwn (pv 4) (de_v 5 (pv 5)) (de_ix (u1 hr) (de_lst (da_cons (de_callTy c_list (by exact rfl) B.list bb_list (da_cons (de_v 6 (pv 6)) da_nil)) (da_cons (de_cut (de_v 6 (pv 6)) do_none (do_some de_int)) (da_cons (de_bin o_add (de_v 6 (pv 6)) (de_tup (da_cons de_int da_nil))) da_nil)))) (de_v 7 (pv 7)))
          · exact dss_nil
        refine dss_freeze 4 ?_
        refine dss_cons ?_ ?_
        · refine ds_set (i := 10) sc_law.nd (by exact rfl) (by exact (Or.inl rfl)) ?_
          exact (de_cmp (o_eq hr.units) (DL.de (dl_comp (by exact rfl) sc_law.nd (di_seq (de_v 4 (pv 4))) (by exact blkOk_by (N := nm_law) (sc := ss_law) (own := [("one", 13)]) (by decide +kernel)) (fun _ _ _ _ _ => (eg_name (i := 13) (by decide) sc_law.nd (by exact rfl) (by first | exact Or.inl rfl | exact Or.inr rfl))) (fun _ _ _ _ _ => (dts_one (dt_not (dt_val (de_call d_law_is_entry hr (by decide) (by exact rfl) takes0 (da_cons (de_v 13 (pv 13)) da_nil)))))) (fun _ _ _ _ _ => (de_v 13 (pv 13))))) (de_lst da_nil) (nomark _))
        refine dss_cons ?_ ?_
        · refine ds_set (i := 10) sc_law.nd (by exact rfl) (by exact (Or.inl rfl)) ?_
          exact (de_and (de_v 10 (pv 10)) (de_one (de_cmp (o_eq hr.units) (DL.de (dl_comp (by exact rfl) sc_law.nd (di_seq (de_v 4 (pv 4))) (by exact blkOk_by (N := nm_law) (sc := ss_law) (own := [("one", 13)]) (by decide +kernel)) (fun _ _ _ _ _ => (eg_name (i := 13) (by decide) sc_law.nd (by exact rfl) (by first | exact Or.inl rfl | exact Or.inr rfl))) (fun _ _ _ _ _ => dts_nil) (fun _ _ _ _ _ => (de_ix (u1 hr) (de_v 13 (pv 13)) de_int)))) (de_callB c_sorted (by exact rfl) B.sorted bb_sorted (da_cons (DL.de (dl_comp (by exact rfl) sc_law.nd (di_seq (de_v 4 (pv 4))) (by exact blkOk_by (N := nm_law) (sc := ss_law) (own := [("one", 13)]) (by decide +kernel)) (fun _ _ _ _ _ => (eg_name (i := 13) (by decide) sc_law.nd (by exact rfl) (by first | exact Or.inl rfl | exact Or.inr rfl))) (fun _ _ _ _ _ => dts_nil) (fun _ _ _ _ _ => (de_ix (u1 hr) (de_v 13 (pv 13)) de_int)))) da_nil)) (nomark _))))
        refine dss_cons ?_ ?_
        · refine ds_set (i := 11) sc_law.nd (by exact rfl) (by exact (Or.inl rfl)) ?_
          exact (de_call d_is_log hr (by decide) (by exact rfl) (by exact takes_of rfl rfl rfl rfl) (da_cons (de_v 4 (pv 4)) da_nil))
        refine dss_one ?_
        refine ds_if ?_ ?_ ?_
        · exact (DW.pt (dw_or (dt_not (dt_val (de_isi isT_bool (de_v 11 (pv 11)) (by exact rfl) B.isinstance (by exact rfl) B.bool bb_bool))) (dw_or1 (dt_cmp (o_ne hr.units) (de_v 11 (pv 11)) (de_v 10 (pv 10)) (nomark _)))))
        · refine dss_one ?_
          refine ds_ret ?_
          exact de_bl
        · exact dss_nil
    refine dss_cons ?_ ?_
    · refine ds_set (i := 3) sc_law.nd (by exact rfl) (by exact (Or.inl rfl)) ?_
      exact (de_lst (da_cons de_non (da_cons (de_callTy c_tuple (by exact rfl) B.tuple bb_tuple (da_cons (de_v 1 (pv 1)) da_nil)) (da_cons de_str (da_cons de_int (da_cons (de_lst (da_cons de_non da_nil)) (da_cons (de_lst (da_cons (de_lst da_nil) da_nil)) (da_cons (de_lst (da_cons (de_tup (da_cons de_int (da_cons de_str da_nil))) da_nil)) (da_cons (de_lst (da_cons (de_tup (da_cons de_int (da_cons de_str (da_cons de_non da_nil)))) (da_cons (de_tup (da_cons de_int (da_cons de_str (da_cons de_non da_nil)))) da_nil))) da_nil)))))))))
    refine dss_one ?_
    refine ds_ret ?_
    exact (de_cmp (o_eq hr.units) (DL.de (dl_comp (by exact rfl) sc_law.nd (di_seq (de_v 3 (pv 3))) (by exact blkOk_by (N := nm_law) (sc := ss_law) (own := [("thing", 12)]) (by decide +kernel)) (fun _ _ _ _ _ => (eg_name (i := 12) (by decide) sc_law.nd (by exact rfl) (by first | exact Or.inl rfl | exact Or.inr rfl))) (fun _ _ _ _ _ => (dts_one (dt_cmp o_isnot (de_call d_is_log hr (by decide) (by exact rfl) takes0 (da_cons (de_v 12 (pv 12)) da_nil)) de_bl (nomark _)))) (fun _ _ _ _ _ => (de_v 12 (pv 12))))) (de_lst da_nil) (nomark _))
theorem ok_law {f : Addr} {fd : FuncData} (F : Fun K "law" "law" st_law f fd) (hb : Binds K fd ["script"] []) (hm : mg "law" = some (.ref f)) (B : Bt mg) (C : Ct K mg) (d_law_log : Df P w K mg base cl 3 "_law_log" ["script", "at"] m_law_log) (d_is_log : Df P w K mg base cl 3 "is_log" ["thing"] m_is_log) (d_law_drawn : Df P w K mg base cl 2 "_law_drawn" ["script", "k", "many"] m_law_drawn) (d_law_is_entry : Df P w K mg base cl 2 "_law_is_entry" ["row"] m_law_is_entry) : Df P w K mg base cl 4 "law" ["script"] m_law :=
  ⟨f, fd, fn_law F B C d_law_log d_is_log d_law_drawn d_law_is_entry, hm, F.kp, hb⟩
end
end BW
namespace BW
open PySem L2
/-- a whole number within bounds -/
def numOk (d : D) (lo hi : Int) : Bool := match d with
  | .int i => decide (lo ≤ i) && decide (i ≤ hi)
  | _ => false
theorem is_number_ev {d : D} {t : String} (lo hi : Int) (S : Store) (h : tyN d = some t) : m_is_number [d, .int lo, .int hi] S = .ok (.bl (numOk d lo hi)) S := by
  cases d <;> simp [tyN] at h <;> simp [m_is_number, g_is_number, isIntD, isBoolD, numOk, fV, gI2]
  rename_i i
  by_cases h1 : lo ≤ i <;> simp [h1]
/-! ### drawn cells -/
def cellF (ns : List Int) (k : Int) : Int := if ns = [] then 7 * k else (ns[(k % (ns.length : Int)).toNat]?).getD 0 + 6553 * (k / (ns.length : Int))
theorem atI_emod {ns : List Int} (h : ns ≠ []) (k : Int) : atI ns (k % (ns.length : Int)) = some ((ns[(k % (ns.length : Int)).toNat]?).getD 0) := by
  have hl : 0 < ns.length := List.length_pos_iff.mpr h
  have h1 : 0 ≤ k % (ns.length : Int) := Int.emod_nonneg k (by omega)
  have h2 : k % (ns.length : Int) < ns.length := Int.emod_lt_of_pos k (by omega)
  have hj : (k % (ns.length : Int)).toNat < ns.length := by omega
  unfold atI ixN
  rw [if_pos h1, if_pos h2]
  simp [hj]
theorem deq_scr_nil (ns : List Int) : deq (.scr ns) (.lst []) = decide (ns = []) := by
  cases ns with
  | nil => rfl
  | cons n ns => rfl
theorem cell_ev (ns : List Int) (hn : ns.length ≤ 63) (k : Int) (S : Store) : m_law_cell [.scr ns, .int k] S = .ok (.int (cellF ns k)) S := by
  have q : gEq false (.scr ns) (.lst []) S = some (.bl (decide (ns = []))) := by rw [eq_ok S false rfl rfl, deq_scr_nil, Bool.false_xor]
  have m1 : ∀ j, gMul (.int 7) (.int j) S = some (.int (7 * j)) := fun j => mul_ok S (.inl (by decide))
  have m2 : ∀ j, gMul (.int 6553) (.int j) S = some (.int (6553 * j)) := fun j => mul_ok S (.inl (by decide))
  have z : ([] : List D).length ≤ LIM := lim_small (by decide)
  unfold m_law_cell g_law_cell
  by_cases h : ns = []
  · subst h
    simp [fV, q, m1, cellF, lim_small]
  · have hl : 0 < ns.length := List.length_pos_iff.mpr h
    have hl2 : (0 : Int) < ns.length := by omega
    have ix : gIx (.scr ns) (.int (k % (ns.length : Int))) S = some (.int ((ns[(k % (ns.length : Int)).toNat]?).getD 0)) := by
      show (atI ns _).map D.int = _
      rw [atI_emod h]; rfl
    simp [fV, q, h, m2, cellF, lim_small, mod_ok S hl2, fdiv_ok S hl2 (show (ns.length : Int) < 1073741824 by omega), ix]
def d1 (ns : List Int) (k : Int) : Int := (cellF ns k % 2147483563 * 69069 + 104723 * (k + 1)) % 2147483563
def d2 (ns : List Int) (k : Int) : Int := (d1 ns k * d1 ns k + d1 ns k / 3) % 2147483399
def drawnF (ns : List Int) (k many : Int) : Int := (d2 ns k * d2 ns k + d2 ns k / 7) % 2147483647 / 11 % many
theorem drawn_ev (ns : List Int) (hn : ns.length ≤ 63) (k many : Int) (hm : 0 < many) (S : Store) : m_law_drawn [.scr ns, .int k, .int many] S = .ok (.int (drawnF ns k many)) S := by
  have a1 : -(2 ^ 64) < cellF ns k % 2147483563 ∧ cellF ns k % 2147483563 < 2 ^ 64 := by omega
  have a2 : -(2 ^ 64) < d1 ns k ∧ d1 ns k < 2 ^ 64 := by unfold d1; omega
  have a3 : -(2 ^ 64) < d2 ns k ∧ d2 ns k < 2 ^ 64 := by unfold d2; omega
  have e1 := mul_ok S (i := cellF ns k % 2147483563) (j := 69069) (.inl a1)
  have e2 := mul_ok S (i := d1 ns k) (j := d1 ns k) (.inl a2)
  have e3 := mul_ok S (i := d2 ns k) (j := d2 ns k) (.inl a3)
  have e4 := mul_ok S (i := 104723) (j := k + 1) (.inl (by decide))
  have f1 := fun i => mod_ok S (i := i) (j := 2147483563) (by decide)
  have f2 := fun i => mod_ok S (i := i) (j := 2147483399) (by decide)
  have f3 := fun i => mod_ok S (i := i) (j := 2147483647) (by decide)
  have f4 := fun i => fdiv_ok S (i := i) (j := 3) (by decide) (by decide)
  have f5 := fun i => fdiv_ok S (i := i) (j := 7) (by decide) (by decide)
  have f6 := fun i => fdiv_ok S (i := i) (j := 11) (by decide) (by decide)
  have f7 := fun i => mod_ok S (i := i) (j := many) hm
  have x1 : (cellF ns k % 2147483563 * 69069 + 104723 * (k + 1)) % 2147483563 = d1 ns k := rfl
  have x2 : (d1 ns k * d1 ns k + d1 ns k / 3) % 2147483399 = d2 ns k := rfl
  unfold m_law_drawn g_law_drawn
  simp [fV, cell_ev ns hn, f1, e1, e4, x1, f4, e2, f2, x2, e3, f5, f3, f6, f7]
  rfl
theorem drawn_lt (ns : List Int) (k : Int) {many : Int} (h : 0 < many) : 0 ≤ drawnF ns k many ∧ drawnF ns k many < many := ⟨Int.emod_nonneg _ (by omega), Int.emod_lt_of_pos _ h⟩

/-! ### entries -/
abbrev six : List Str := ["arm", "lift", "opened", "closed", "moved", "wait"]
theorem l2 : (2 : Nat) ≤ LIM := lim_small (by decide)
/-- the arm's thing -/
def armOk (c : D) : Bool := match c with
  | .tup [m, .tup l] => numOk m 0 2 && l.all (numOk · 0 11)
  | _ => false
/-- the three looks at a word -/
structure Wd3 (S : Store) (s : Str) (x6 x2 xa : Bool) : Prop where
  w6 : gIn true (.str s) (.tup [.str "arm", .str "lift", .str "opened", .str "closed", .str "moved", .str "wait"]) S = some (.bl x6)
  w2 : gIn false (.str s) (.tup [.str "lift", .str "wait"]) S = some (.bl x2)
  wa : gEq true (.str s) (.str "arm") S = some (.bl xa)
theorem wd3 (S : Store) {s : Str} {x6 x2 xa : Bool} (hs : PyData.strOk s = true) (h6 : six.any (· == s) = !x6) (h2 : ([("lift" : Str), "wait"].any (· == s)) = x2) (ha : (s == ("arm" : Str)) = !xa) : Wd3 S s x6 x2 xa := by
  refine ⟨(in_strs S true s six hs (by decide +kernel)).trans ?_, (in_strs S false s ["lift", "wait"] hs (by decide +kernel)).trans ?_, ?_⟩
  · rw [h6]; cases x6 <;> rfl
  · rw [h2]; cases x2 <;> rfl
  · rw [eq_ok S true (a := .str s) hs (by decide +kernel), deq_str, ha]; cases xa <;> rfl
theorem entry3 {a c : D} {s : Str} {x6 x2 xa : Bool} (S : Store) (w : Wd3 S s x6 x2 xa) (hna : m_is_number [a, .int 0, .int 999999] S = .ok (.bl true) S) (pc : PD 7 c = true) :
    m_is_entry [.tup [a, .str s, c]] S = .ok (.bl (if x6 then false else if x2 then isNonD c else if xa then numOk c 0 9 else armOk c)) S := by
  have i0 : gIx (.tup [a, .str s, c]) (.int 0) S = some a := rfl
  have i1 : gIx (.tup [a, .str s, c]) (.int 1) S = some (.str s) := rfl
  have i2 : gIx (.tup [a, .str s, c]) (.int 2) S = some c := rfl
  obtain ⟨w6, w2, wa⟩ := w
  obtain ⟨tc, htc⟩ := PD_ty pc
  have n9 := is_number_ev 0 9 S htc
  unfold m_is_entry g_is_entry
  cases x6 with
  | true => simp [fV, isTupD, isStrD, i0, i1, i2, hna, w6]
  | false =>
    cases x2 with
    | true => simp [fV, isTupD, isStrD, i0, i1, i2, hna, w6, w2, l2, gIs]
    | false =>
      cases xa with
      | true => simp [fV, isTupD, isStrD, i0, i1, i2, hna, w6, w2, l2, wa, n9]
      | false =>
        cases c with
        | tup l =>
          obtain ⟨hl, hx⟩ := PD_tup pc
          match l, hl, hx with
          | [], _, _ => simp [fV, isTupD, isStrD, i0, i1, i2, hna, w6, w2, wa, l2, armOk]
          | [x], _, _ => simp [fV, isTupD, isStrD, i0, i1, i2, hna, w6, w2, wa, l2, armOk]
          | x :: y :: z :: l, _, _ =>
            have : ((l.length : Int) + 1 + 1 + 1 == 2) = false := by simp; omega
            simp [fV, isTupD, isStrD, i0, i1, i2, hna, w6, w2, wa, l2, armOk, this]
          | [x, y], _, hx =>
            have px := hx x (by simp)
            have py := hx y (by simp)
            obtain ⟨tx, htx⟩ := PD_ty px
            obtain ⟨ty, hty⟩ := PD_ty py
            have j0 : gIx (.tup [x, y]) (.int 0) S = some x := rfl
            have j1 : gIx (.tup [x, y]) (.int 1) S = some y := rfl
            have n2 := is_number_ev 0 2 S htx
            cases y with
            | tup l =>
              obtain ⟨hl, hz⟩ := PD_tup py
              have cm := compL_map (t := tgName 1) (fe := fM 3 m_is_number (fCons (fV 1) (fCons (fC (.int 0)) (fCons (fC (.int 11)) fNil)))) (ρ := [some (.dat (.tup [a, .str s, .tup [x, .tup l]])), none]) (S := S) (fun z => .bl (numOk z 0 11)) l [] (fun z hzz => ⟨_, rfl, by
                obtain ⟨tz, htz⟩ := PD_ty (hz z hzz)
                simp [is_number_ev 0 11 S htz]⟩) (by simp; omega)
              simp [fV, isTupD, isStrD, i0, i1, i2, hna, w6, w2, wa, l2, armOk, j0, j1, n2, wipeE, cm, all_map]
              cases hm : numOk x 0 2 <;> simp [cm, all_map]
            | dic _ => simp [tyN] at hty
            | scr _ => simp [tyN] at hty
            | ref _ => simp [tyN] at hty
            | _ => simp [fV, isTupD, isStrD, i0, i1, i2, hna, w6, w2, wa, l2, armOk, j0, j1, n2]
        | dic _ => simp [tyN] at htc
        | scr _ => simp [tyN] at htc
        | ref _ => simp [tyN] at htc
        | _ => simp [fV, isTupD, isStrD, i0, i1, i2, hna, w6, w2, wa, l2, armOk]

/-- a row of three, the word being read -/
def rowOk (s : Str) (c : D) : Bool := if (!(six.any (· == s))) = true then false else if ([("lift" : Str), "wait"].any (· == s)) = true then isNonD c else if (!(s == ("arm" : Str))) = true then numOk c 0 9 else armOk c
def entryOk (d : D) : Bool := match d with
  | .tup [a, .str s, c] => numOk a 0 999999 && rowOk s c
  | _ => false
theorem is_entry_ev {d : D} (S : Store) (h : PD 8 d = true) : m_is_entry [d] S = .ok (.bl (entryOk d)) S := by
  obtain ⟨ty, hty⟩ := PD_ty h
  cases d with
  | tup l =>
    obtain ⟨hl, hx⟩ := PD_tup h
    match l, hl, hx with
    | [], _, _ => simp [m_is_entry, g_is_entry, fV, isTupD, entryOk]
    | [a], _, _ => simp [m_is_entry, g_is_entry, fV, isTupD, entryOk]
    | [a, b], _, _ => simp [m_is_entry, g_is_entry, fV, isTupD, entryOk]
    | a :: b :: c :: d :: l, _, _ =>
      have : ((l.length : Int) + 1 + 1 + 1 + 1 == 3) = false := by simp; omega
      simp [m_is_entry, g_is_entry, fV, isTupD, entryOk, this]
    | [a, b, c], _, hx =>
      have pa := hx a (by simp)
      have pb := hx b (by simp)
      have pc := hx c (by simp)
      obtain ⟨ta, hta⟩ := PD_ty pa
      obtain ⟨tb, htb⟩ := PD_ty pb
      have i0 : gIx (.tup [a, b, c]) (.int 0) S = some a := rfl
      have i1 : gIx (.tup [a, b, c]) (.int 1) S = some b := rfl
      have n0 := is_number_ev 0 999999 S hta
      cases hna : numOk a 0 999999 with
      | false =>
        have e : entryOk (.tup [a, b, c]) = false := by cases b <;> simp [entryOk, hna]
        rw [e]
        simp [m_is_entry, g_is_entry, fV, isTupD, i0, n0, hna]
      | true =>
        rw [hna] at n0
        cases b with
        | str s =>
          have hs : PyData.strOk s = true := by simpa [PD] using pb
          have e : entryOk (.tup [a, .str s, c]) = rowOk s c := by simp only [entryOk, hna, Bool.true_and]
          rw [e, entry3 S (wd3 S (x6 := !(six.any (· == s))) (x2 := [("lift" : Str), "wait"].any (· == s)) (xa := !(s == ("arm" : Str))) hs (by rw [Bool.not_not]) rfl (by rw [Bool.not_not])) n0 pc]
          rfl
        | dic _ => simp [tyN] at htb
        | scr _ => simp [tyN] at htb
        | ref _ => simp [tyN] at htb
        | _ => simp [m_is_entry, g_is_entry, fV, isTupD, isStrD, i0, i1, n0, entryOk, hna]
  | dic _ => simp [tyN] at hty
  | scr _ => simp [tyN] at hty
  | ref _ => simp [tyN] at hty
  | _ => simp [m_is_entry, g_is_entry, fV, isTupD, entryOk]
theorem law_is_ev {d : D} {t : String} (n : Int) (S : Store) (h : tyN d = some t) : m_law_is [d, .int n] S = .ok (.bl (numOk d 0 (n - 1))) S := by
  cases d <;> simp [tyN] at h <;> simp [m_law_is, g_law_is, isIntD, isBoolD, numOk, fV, gI2]
  rename_i i
  have e : (i < n) ↔ (i ≤ n - 1) := by omega
  have q : gLt (.int i) (.int n) S = some (.bl (decide (i < n))) := rfl
  by_cases h1 : 0 ≤ i <;> simp [h1, q, e]
theorem eq_nil (S : Store) (l : List D) (h : okD 12 (.lst l) = true) : gEq false (.lst l) (.lst []) S = some (.bl (decide (l = []))) := by
  rw [eq_ok S false h rfl]
  cases l <;> rfl
theorem filt_nil (p : D → Bool) (l : List D) : decide (l.filter (fun x => !p x) = []) = l.all p := by
  induction l with
  | nil => rfl
  | cons x l ih =>
    cases h : p x <;> simp [h] at ih ⊢
    simpa using ih
theorem l3 : (3 : Nat) ≤ LIM := lim_small (by decide)
theorem l0 : (0 : Nat) ≤ LIM := Nat.zero_le _
theorem arm_words {s : Str} (h : (s == ("arm" : Str)) = true) : ([("opened" : Str), "closed", "moved"].any (· == s)) = false ∧ ([("lift" : Str), "wait"].any (· == s)) = false ∧ six.any (· == s) = true := by
  have : s = "arm" := by simpa using h
  subst this
  exact ⟨by decide +kernel, by decide +kernel, by decide +kernel⟩
theorem okD_pd {n : Nat} (h : n ≤ 11) {l : List D} (hl : ∀ x ∈ l, PD n x = true) : okD 12 (.lst l) = true := by
  simp only [okD, List.all_eq_true]
  exact fun x hx => okD_le (PD_okD (hl x hx)) h
theorem lrow {a c : D} {s : Str} (S : Store) (hs : PyData.strOk s = true) (hna : m_law_is [a, .int 1000000] S = .ok (.bl true) S) (pc : PD 7 c = true) :
    m_law_is_entry [.tup [a, .str s, c]] S = .ok (.bl (rowOk s c)) S := by
  have i0 : gIx (.tup [a, .str s, c]) (.int 0) S = some a := rfl
  have i1 : gIx (.tup [a, .str s, c]) (.int 1) S = some (.str s) := rfl
  have i2 : gIx (.tup [a, .str s, c]) (.int 2) S = some c := rfl
  have w2 := in_strs S false s ["lift", "wait"] hs (by decide +kernel)
  have w3 := in_strs S false s ["opened", "closed", "moved"] hs (by decide +kernel)
  have wa : gEq true (.str s) (.str "arm") S = some (.bl (xor true (s == "arm"))) := by rw [eq_ok S true (a := .str s) hs (by decide +kernel), deq_str]
  simp only [List.map_cons, List.map_nil, Bool.false_xor] at w2 w3
  have hsix : six.any (· == s) = ((s == ("arm" : Str)) || ([("lift" : Str), "wait"].any (· == s)) || ([("opened" : Str), "closed", "moved"].any (· == s))) := by
    simp only [List.any_cons, List.any_nil, Bool.or_false]
    rw [show (s == ("arm" : Str)) = (("arm" : Str) == s) from BEq.comm]
    generalize (("arm" : Str) == s) = b1
    generalize (("lift" : Str) == s) = b2
    generalize (("opened" : Str) == s) = b3
    generalize (("closed" : Str) == s) = b4
    generalize (("moved" : Str) == s) = b5
    generalize (("wait" : Str) == s) = b6
    revert b1 b2 b3 b4 b5 b6
    decide
  obtain ⟨tc, htc⟩ := PD_ty pc
  have n9 := law_is_ev 10 S htc
  unfold m_law_is_entry g_law_is_entry rowOk
  rw [hsix]
  have haw := @arm_words s
  generalize ([("lift" : Str), "wait"].any (· == s)) = x2 at w2 haw ⊢
  generalize ([("opened" : Str), "closed", "moved"].any (· == s)) = x3 at w3 haw ⊢
  generalize (s == ("arm" : Str)) = xa at wa haw ⊢
  cases x2 with
  | true => simp [fV, isTupD, i0, i1, i2, hna, w2, l2, gIs]
  | false =>
    cases x3 with
    | true =>
      cases xa with
      | true => exact absurd (haw rfl).1 (by decide)
      | false => simp [fV, isTupD, i0, i1, i2, hna, w2, w3, l2, l3, n9]
    | false =>
      cases xa with
      | false => simp [fV, isTupD, i0, i1, i2, hna, w2, w3, l2, l3, wa]
      | true =>
        cases c with
        | tup l =>
          obtain ⟨hl, hx⟩ := PD_tup pc
          match l, hl, hx with
          | [], _, _ => simp [fV, isTupD, i0, i1, i2, hna, w2, w3, wa, l2, l3, armOk]
          | [x], _, _ => simp [fV, isTupD, i0, i1, i2, hna, w2, w3, wa, l2, l3, armOk]
          | x :: y :: z :: l, _, _ =>
            have : ((l.length : Int) + 1 + 1 + 1 == 2) = false := by simp; omega
            simp [fV, isTupD, i0, i1, i2, hna, w2, w3, wa, l2, l3, armOk, this]
          | [x, y], _, hx =>
            have px := hx x (by simp)
            have py := hx y (by simp)
            obtain ⟨tx, htx⟩ := PD_ty px
            obtain ⟨ty, hty⟩ := PD_ty py
            have j0 : gIx (.tup [x, y]) (.int 0) S = some x := rfl
            have j1 : gIx (.tup [x, y]) (.int 1) S = some y := rfl
            have n2 := law_is_ev 3 S htx
            cases y with
            | tup l =>
              obtain ⟨hl, hz⟩ := PD_tup py
              have cm := compL_filter (t := tgName 1) (ft := fNot (fB (fM 2 m_law_is (fCons (fV 1) (fCons (fC (.int 12)) fNil))))) (fe := fV 1) (ρ := [some (.dat (.tup [a, .str s, .tup [x, .tup l]])), none]) (S := S) (fun z => !numOk z 0 11) (fun z => z) l [] (fun z hzz => ⟨_, rfl, by
                obtain ⟨tz, htz⟩ := PD_ty (hz z hzz)
                have := law_is_ev 12 S htz
                simp at this
                simp [this], fun _ => by simp⟩) (by simp; omega)
              have q := eq_nil S (l.filter fun z => !numOk z 0 11) (okD_pd (n := 5) (by decide) fun x hx => hz x (List.mem_filter.mp hx).1)
              rw [filt_nil] at q
              simp only [List.nil_append, List.map_id'] at cm
              cases hm : numOk x 0 2 <;> simp [fV, isTupD, i0, i1, i2, hna, w2, w3, wa, l2, l3, l0, armOk, j0, j1, n2, wipeE, cm, q, hm]
            | dic _ => simp [tyN] at hty
            | scr _ => simp [tyN] at hty
            | ref _ => simp [tyN] at hty
            | _ => cases hm : numOk x 0 2 <;> simp [fV, isTupD, i0, i1, i2, hna, w2, w3, wa, l2, l3, armOk, j0, j1, n2, hm]
        | dic _ => simp [tyN] at htc
        | scr _ => simp [tyN] at htc
        | ref _ => simp [tyN] at htc
        | _ => simp [fV, isTupD, i0, i1, i2, hna, w2, w3, wa, l2, l3, armOk]
theorem law_is_entry_ev {d : D} (S : Store) (h : PD 8 d = true) : m_law_is_entry [d] S = .ok (.bl (entryOk d)) S := by
  obtain ⟨ty, hty⟩ := PD_ty h
  cases d with
  | tup l =>
    obtain ⟨hl, hx⟩ := PD_tup h
    match l, hl, hx with
    | [], _, _ => simp [m_law_is_entry, g_law_is_entry, fV, isTupD, entryOk]
    | [a], _, _ => simp [m_law_is_entry, g_law_is_entry, fV, isTupD, entryOk]
    | [a, b], _, _ => simp [m_law_is_entry, g_law_is_entry, fV, isTupD, entryOk]
    | a :: b :: c :: d :: l, _, _ =>
      have : ((l.length : Int) + 1 + 1 + 1 + 1 == 3) = false := by simp; omega
      simp [m_law_is_entry, g_law_is_entry, fV, isTupD, entryOk, this]
    | [a, b, c], _, hx =>
      have pa := hx a (by simp)
      have pb := hx b (by simp)
      have pc := hx c (by simp)
      obtain ⟨ta, hta⟩ := PD_ty pa
      obtain ⟨tb, htb⟩ := PD_ty pb
      have i0 : gIx (.tup [a, b, c]) (.int 0) S = some a := rfl
      have i1 : gIx (.tup [a, b, c]) (.int 1) S = some b := rfl
      have n0 := law_is_ev 1000000 S hta
      simp only [show (1000000 - 1 : Int) = 999999 from rfl] at n0
      cases hna : numOk a 0 999999 with
      | false =>
        have e : entryOk (.tup [a, b, c]) = false := by cases b <;> simp [entryOk, hna]
        rw [e]
        simp [m_law_is_entry, g_law_is_entry, fV, isTupD, i0, n0, hna]
      | true =>
        rw [hna] at n0
        have no : (∀ s, b ≠ .str s) → m_law_is_entry [.tup [a, b, c]] S = .ok (.bl false) S := by
          intro hb
          have w2 := in_strs_no S false ["lift", "wait"] (PD_ok12 pb) hb (by decide +kernel)
          have w3 := in_strs_no S false ["opened", "closed", "moved"] (PD_ok12 pb) hb (by decide +kernel)
          have wa : gEq true b (.str "arm") S = some (.bl true) := by rw [eq_ok S true (PD_ok12 pb) (by decide +kernel), deq_no_str hb]; rfl
          simp only [List.map_cons, List.map_nil] at w2 w3
          simp [m_law_is_entry, g_law_is_entry, fV, isTupD, i0, i1, n0, w2, w3, wa, l2, l3]
        cases b with
        | str s =>
          have hs : PyData.strOk s = true := by simpa [PD] using pb
          have e : entryOk (.tup [a, .str s, c]) = rowOk s c := by simp only [entryOk, hna, Bool.true_and]
          rw [e, lrow S hs n0 pc]
        | dic _ => simp [tyN] at htb
        | scr _ => simp [tyN] at htb
        | ref _ => simp [tyN] at htb
        | _ => exact no (by intro s h; cases h)
  | dic _ => simp [tyN] at hty
  | scr _ => simp [tyN] at hty
  | ref _ => simp [tyN] at hty
  | _ => simp [m_law_is_entry, g_law_is_entry, fV, isTupD, entryOk]
/-! ### logs -/
def headI (d : D) : Int := match d with
  | .tup (.int i :: _) => i
  | _ => 0
def adj : List D → Bool
  | a :: b :: l => decide (headI a ≤ headI b) && adj (b :: l)
  | _ => true
theorem entry_head {d : D} (h : entryOk d = true) : ∃ s c, d = .tup [.int (headI d), .str s, c] := by
  unfold entryOk at h
  split at h
  · rename_i a s c
    cases a <;> simp [numOk] at h
    exact ⟨s, c, rfl⟩
  · cases h
theorem zip_adj : ∀ l : List D, (zipD l l.tail).all (fun p => match p with | .tup [a, b] => decide (headI a ≤ headI b) | _ => false) = adj l
  | [] => rfl
  | [a] => rfl
  | a :: b :: l => by
    have := zip_adj (b :: l)
    simp only [zipD, List.tail_cons, List.zipWith_cons_cons, List.all_cons, adj] at this ⊢
    rw [this]
theorem zip_mem {p : D} : ∀ {a b : List D}, p ∈ zipD a b → ∃ x y, x ∈ a ∧ y ∈ b ∧ p = .tup [x, y]
  | [], _, h => by simp [zipD] at h
  | _ :: _, [], h => by simp [zipD] at h
  | x :: a, y :: b, h => by
    simp only [zipD, List.zipWith_cons_cons, List.mem_cons] at h
    rcases h with rfl | h
    · exact ⟨x, y, List.mem_cons_self, List.mem_cons_self, rfl⟩
    · obtain ⟨x', y', hx, hy, e⟩ := zip_mem (a := a) (b := b) h
      exact ⟨x', y', List.mem_cons_of_mem _ hx, List.mem_cons_of_mem _ hy, e⟩
theorem cut1 (l : List D) : cutD l (some 1) none = l.tail := by
  unfold cutD
  cases l with
  | nil => rfl
  | cons x l =>
    have e1 : HT.sIx (x :: l).length 0 (some 1) = 1 := by simp [HT.sIx]
    have e2 : HT.sIx (x :: l).length (x :: l).length none = (x :: l).length := rfl
    rw [e1, e2]
    simp
theorem is_log_ev {l : List D} (S : Store) (h : PD 9 (.lst l) = true) : m_is_log [.lst l] S = .ok (.bl (l.all entryOk && adj l)) S := by
  obtain ⟨hl, hx⟩ := PD_lst h
  have cm := compL_map (t := tgName 3) (fe := fM 1 m_is_entry (fCons (fV 3) fNil)) (ρ := [some (.dat (.lst l)), none, none, none]) (S := S) (fun z => .bl (entryOk z)) l [] (fun z hz => ⟨_, rfl, by simp [is_entry_ev S (hx z hz)]⟩) (by simp; omega)
  simp only [List.nil_append] at cm
  unfold m_is_log g_is_log
  cases ha : l.all entryOk with
  | false => simp [fV, isLstD, wipeE, cm, all_map, ha]
  | true =>
    have ha' := List.all_eq_true.mp ha
    have cz := compL_map (t := tgTup 2 (tgCons (tgName 1) (tgCons (tgName 2) tgNil))) (fe := f2 gLe (f2 gIx (fV 1) (fC (.int 0))) (f2 gIx (fV 2) (fC (.int 0)))) (ρ := [some (.dat (.lst l)), none, none, none]) (S := S) (fun p => .bl (match p with | .tup [a, b] => decide (headI a ≤ headI b) | _ => false)) (zipD l l.tail) [] (fun p hp => by
        obtain ⟨x, y, hx1, hy1, rfl⟩ := zip_mem hp
        obtain ⟨s1, c1, e1⟩ := entry_head (ha' x hx1)
        obtain ⟨s2, c2, e2⟩ := entry_head (ha' y (List.mem_of_mem_tail hy1))
        have i1 : gIx x (.int 0) S = some (.int (headI x)) := by rw [e1]; rfl
        have i2 : gIx y (.int 0) S = some (.int (headI y)) := by rw [e2]; rfl
        exact ⟨_, rfl, by simp [i1, i2, gI2]⟩) (by simp [zipD]; omega)
    simp only [List.nil_append] at cz
    simp [fV, isLstD, wipeE, cm, all_map, ha, gCut, cut1, kZip, cz, zip_adj]
theorem is_log_no {d : D} {n : Nat} (S : Store) (h : PD n d = true) (hl : ∀ l, d ≠ .lst l) : m_is_log [d] S = .ok (.bl false) S := by
  obtain ⟨ty, hty⟩ := PD_ty h
  cases d <;> simp [tyN] at hty <;> first | exact absurd rfl (hl _) | simp [m_is_log, g_is_log, fV, isLstD]
end BW
namespace BW
open PySem L2
theorem forL_inv {t : Tgt} {g : Stm} {S : Store} (I : Nat → Env → Prop) : ∀ (xs : List D) (i : Nat) (ρ : Env), I i ρ → (∀ j x ρ, xs[j]? = some x → I (i + j) ρ → ∃ ρ1 ρ2, t x ρ = some ρ1 ∧ g ρ1 S = .next ρ2 S ∧ I (i + j + 1) ρ2) → ∃ ρ', forL t g xs ρ S = .next ρ' S ∧ I (i + xs.length) ρ'
  | [], i, ρ, h, _ => ⟨ρ, rfl, h⟩
  | x :: xs, i, ρ, h, st => by
    obtain ⟨ρ1, ρ2, e1, e2, h2⟩ := st 0 x ρ rfl h
    obtain ⟨ρ', e, h'⟩ := forL_inv I xs (i + 1) ρ2 h2 fun j y ρ hy hI => by
      have := st (j + 1) y ρ hy (by rw [show i + (j + 1) = i + 1 + j by omega]; exact hI)
      rw [show i + (j + 1) = i + 1 + j by omega] at this
      exact this
    refine ⟨ρ', ?_, by rw [List.length_cons, show i + (xs.length + 1) = i + 1 + xs.length by omega]; exact h'⟩
    simp only [forL, e1, e2, e]
theorem rng_at {lo : Int} {n j : Nat} {x : D} (h : (rngD lo n)[j]? = some x) : x = .int (lo + (j : Int)) ∧ j < n := by
  unfold rngD at h
  simp only [List.getElem?_map, Option.map_eq_some_iff] at h
  obtain ⟨a, ha, rfl⟩ := h
  have hj : j < n := by
    have := (List.getElem?_eq_some_iff.mp ha).1
    simpa using this
  rw [List.getElem?_range hj] at ha
  cases ha
  exact ⟨rfl, hj⟩
theorem rng_len (lo : Int) (n : Nat) : (rngD lo n).length = n := by simp [rngD]
theorem rng1_ok {j : Int} (h : 0 ≤ j ∧ j < 2 ^ 62) : kRng1 [.int j] = some (rngD 0 j.toNat) := by
  simp only [kRng1]
  rw [if_pos ⟨by omega, h.2⟩]
theorem adj_snoc {r : D} : ∀ {l : List D}, adj l = true → (∀ x ∈ l, headI x ≤ headI r) → adj (l ++ [r]) = true
  | [], _, _ => rfl
  | [a], _, h => by simp [adj, h a (by simp)]
  | a :: b :: l, h, hh => by
    simp only [adj, Bool.and_eq_true] at h
    have := adj_snoc h.2 (fun x hx => hh x (List.mem_cons_of_mem _ hx))
    simp only [List.cons_append, adj, Bool.and_eq_true]
    exact ⟨h.1, this⟩
/-- the rows of a drawn log -/
def Row (x : D) : Prop := PD 5 x = true ∧ entryOk x = true
structure Log (l : List D) (m : Int) : Prop where
  row : ∀ x ∈ l, Row x
  adj : adj l = true
  hd : ∀ x ∈ l, headI x ≤ m
  lo : 0 ≤ m
theorem Log.snoc {l : List D} {m m' : Int} {w : Str} {c : D} (h : Log l m) (h1 : m ≤ m') (h2 : m' ≤ 999999) (hp : PD 5 (.tup [.int m', .str w, c]) = true) (hr : rowOk w c = true) : Log (l ++ [.tup [.int m', .str w, c]]) m' := by
  have h0 := h.lo
  refine ⟨fun x hx => ?_, adj_snoc h.adj fun x hx => Int.le_trans (h.hd x hx) h1, fun x hx => ?_, by omega⟩
  · rcases List.mem_append.mp hx with hx | hx
    · exact h.row x hx
    · rw [List.mem_singleton.mp hx]
      refine ⟨hp, ?_⟩
      have : 0 ≤ m' := by omega
      simp [entryOk, numOk, this, h2, hr]
  · rcases List.mem_append.mp hx with hx | hx
    · exact Int.le_trans (h.hd x hx) h1
    · rw [List.mem_singleton.mp hx]; exact Int.le_refl _
def LI (ns : List Int) (at_ : Int) (i : Nat) (ρ : Env) : Prop := ∃ l m s4 s5 s6 s7 s8 s9, ρ = [some (.dat (.scr ns)), some (.dat (.int at_)), some (.own l), some (.dat (.int m)), s4, s5, s6, s7, s8, s9] ∧ l.length = i ∧ Log l m ∧ m ≤ 49 + 40 * (i : Int)
theorem step3 (S : Store) {d : Int} (h : 0 ≤ d ∧ d < 3) : ∃ k, gIx (.lst [.int 0, .int 1, .int 40]) (.int d) S = some (.int k) ∧ 0 ≤ k ∧ k ≤ 40 := by
  have : d = 0 ∨ d = 1 ∨ d = 2 := by omega
  rcases this with rfl | rfl | rfl
  · exact ⟨0, rfl, by omega⟩
  · exact ⟨1, rfl, by omega⟩
  · exact ⟨40, rfl, by omega⟩
theorem step6 (S : Store) {d : Int} (h : 0 ≤ d ∧ d < 6) : ∃ s ∈ six, gIx (.lst [.str "arm", .str "lift", .str "opened", .str "closed", .str "moved", .str "wait"]) (.int d) S = some (.str s) := by
  have : d = 0 ∨ d = 1 ∨ d = 2 ∨ d = 3 ∨ d = 4 ∨ d = 5 := by omega
  rcases this with rfl | rfl | rfl | rfl | rfl | rfl <;> exact ⟨_, by decide +kernel, rfl⟩
theorem six_cases {s : Str} (h : s ∈ six) : (s = "arm" ∨ s = "lift" ∨ s = "wait" ∨ s = "opened" ∨ s = "closed" ∨ s = "moved") := by
  simp only [six, List.mem_cons, List.not_mem_nil, or_false] at h
  rcases h with h | h | h | h | h | h <;> simp [h]
theorem l1 : (1 : Nat) ≤ LIM := lim_small (by decide)
theorem l6 : (6 : Nat) ≤ LIM := lim_small (by decide)
theorem body_ok (ns : List Int) (hn : ns.length ≤ 63) (at_ : Int) (S : Store) (i : Nat) (hi : i < 9) (ρ : Env) (k : Int) (h : LI ns at_ i ρ) : ∃ ρ1 ρ2, tgName 4 (.int k) ρ = some ρ1 ∧ b_law_log_1 ρ1 S = .next ρ2 S ∧ LI ns at_ (i + 1) ρ2 := by
  obtain ⟨l, m, s4, s5, s6, s7, s8, s9, rfl, rfl, hl, hm⟩ := h
  have m8 : gMul (.int 8) (.int k) S = some (.int (8 * k)) := mul_ok S (.inl (by decide))
  have dr := fun k many (h : (0 : Int) < many) => drawn_ev ns hn k many h S
  have dlt := fun k => @drawn_lt ns k
  obtain ⟨st, e3, st0, st1⟩ := step3 S (dlt (at_ + 2 + 8 * k) (many := 3) (by decide))
  obtain ⟨wd, hw, e6⟩ := step6 S (dlt (at_ + 2 + 8 * k + 1) (many := 6) (by decide))
  have d3 := dr (at_ + 2 + 8 * k) 3 (by decide)
  have d6 := dr (at_ + 2 + 8 * k + 1) 6 (by decide)
  have d10 := dr (at_ + 2 + 8 * k + 2) 10 (by decide)
  have d33 := dr (at_ + 2 + 8 * k + 2) 3 (by decide)
  have d4 := dr (at_ + 2 + 8 * k + 3) 4 (by decide)
  have hlim : l.length < LIM := limlt_small (by omega)
  have hs : PyData.strOk wd = true := by
    rcases six_cases hw with h | h | h | h | h | h <;> subst h <;> decide +kernel
  have w2 := in_strs S false wd ["lift", "wait"] hs (by decide +kernel)
  have wa : gEq false (.str wd) (.str "arm") S = some (.bl (xor false (wd == "arm"))) := by rw [eq_ok S false (a := .str wd) hs (by decide +kernel), deq_str]
  simp only [List.map_cons, List.map_nil, Bool.false_xor] at w2 wa
  have fin : ∀ (c : D) (s8' s9' : Option Slot), PD 4 c = true → rowOk wd c = true → LI ns at_ (l.length + 1) [some (.dat (.scr ns)), some (.dat (.int at_)), some (.own (l ++ [.tup [.int (m + st), .str wd, c]])), some (.dat (.int (m + st))), some (.dat (.int k)), some (.dat (.int (at_ + 2 + 8 * k))), some (.dat (.str wd)), some (.dat c), s8', s9'] := fun c s8' s9' pc hr =>
    ⟨_, _, _, _, _, _, _, _, rfl, by simp, hl.snoc (by omega) (by omega) (by simp [PD, hs, pc]) hr, by omega⟩
  have hsix : six.any (· == wd) = true := by
    rcases six_cases hw with h | h | h | h | h | h <;> subst h <;> decide +kernel
  have tg : ∀ d, tgName 4 d [some (.dat (.scr ns)), some (.dat (.int at_)), some (.own l), some (.dat (.int m)), s4, s5, s6, s7, s8, s9] = some [some (.dat (.scr ns)), some (.dat (.int at_)), some (.own l), some (.dat (.int m)), some (.dat d), s5, s6, s7, s8, s9] := fun d => rfl
  cases h2 : [("lift" : Str), "wait"].any (· == wd) with
  | true =>
    rw [h2] at w2
    have hna : (wd == ("arm" : Str)) = false := by
      cases ha : (wd == ("arm" : Str)) with
      | false => rfl
      | true => rw [(arm_words ha).2.1] at h2; cases h2
    rw [hna] at wa
    refine ⟨_, _, tg _, ?_, fin .non s8 s9 rfl (by simp only [rowOk, hsix, h2]; rfl)⟩
    simp [b_law_log_1, sAppend, m8, d3, d6, e3, e6, w2, wa, l2, l3, l6, hlim]
  | false =>
    rw [h2] at w2
    cases ha : (wd == ("arm" : Str)) with
    | false =>
      rw [ha] at wa
      have hd := dlt (at_ + 2 + 8 * k + 2) (many := 10) (by decide)
      refine ⟨_, _, tg _, ?_, fin (.int (drawnF ns (at_ + 2 + 8 * k + 2) 10)) s8 s9 rfl (by simp [rowOk, hsix, h2, ha, numOk]; omega)⟩
      simp [b_law_log_1, sAppend, m8, d3, d6, d10, e3, e6, w2, wa, l2, l3, l6, hlim]
    | true =>
      rw [ha] at wa
      have r4 := dlt (at_ + 2 + 8 * k + 3) (many := 4) (by decide)
      have k4 := rng1_ok (j := drawnF ns (at_ + 2 + 8 * k + 3) 4) (by omega)
      have cm := compL_map (t := tgName 9) (fe := fM 3 m_law_drawn (fCons (fV 0) (fCons (f2 gAdd (f2 gAdd (fV 5) (fC (.int 4))) (fV 9)) (fCons (fC (.int 12)) fNil)))) (ρ := [some (.dat (.scr ns)), some (.dat (.int at_)), some (.own l), some (.dat (.int (m + st))), some (.dat (.int k)), some (.dat (.int (at_ + 2 + 8 * k))), some (.dat (.str wd)), some (.dat (.int (drawnF ns (at_ + 2 + 8 * k + 2) 10))), s8, none]) (S := S) (fun x => match x with | .int j => .int (drawnF ns (at_ + 2 + 8 * k + 4 + j) 12) | _ => .non) (rngD 0 (drawnF ns (at_ + 2 + 8 * k + 3) 4).toNat) [] (fun x hx => by
        obtain ⟨j, hj⟩ := List.mem_iff_getElem?.mp hx
        obtain ⟨rfl, _⟩ := rng_at hj
        exact ⟨_, rfl, by simp [dr (at_ + 2 + 8 * k + 4 + (j : Int)) 12 (by decide)]⟩) (by rw [rng_len]; simp; omega)
      simp only [List.nil_append] at cm
      generalize hes : (rngD 0 (drawnF ns (at_ + 2 + 8 * k + 3) 4).toNat).map _ = es at cm
      have hes1 : es.length ≤ 4 := by rw [← hes, List.length_map, rng_len]; omega
      have hes2 : ∀ x ∈ es, PD 2 x = true ∧ numOk x 0 11 = true := by
        intro x hx
        rw [← hes] at hx
        obtain ⟨y, hy, rfl⟩ := List.mem_map.mp hx
        obtain ⟨j, hj⟩ := List.mem_iff_getElem?.mp hy
        obtain ⟨rfl, _⟩ := rng_at hj
        have := dlt (at_ + 2 + 8 * k + 4 + (0 + (j : Int))) (many := 12) (by decide)
        exact ⟨rfl, by simp only [numOk, Bool.and_eq_true, decide_eq_true_eq]; omega⟩
      have hd := dlt (at_ + 2 + 8 * k + 2) (many := 3) (by decide)
      refine ⟨_, _, tg _, ?_, fin (.tup [.int (drawnF ns (at_ + 2 + 8 * k + 2) 3), .tup es]) (some (.dat (.tup es))) s9 ?_ ?_⟩
      · simp [b_law_log_1, sAppend, m8, d3, d6, d10, d33, d4, k4, e3, e6, w2, wa, l2, l3, l6, hlim, wipeE, cm, gTuple]
      · simp [PD]
        exact ⟨by omega, fun x hx => (hes2 x hx).1⟩
      · simp [rowOk, hsix, h2, ha, armOk, numOk]
        exact ⟨by omega, fun x hx => (hes2 x hx).2⟩
theorem law_log_ev (ns : List Int) (hn : ns.length ≤ 63) (at_ : Int) (S : Store) : ∃ l m, m_law_log [.scr ns, .int at_] S = .ok (.lst l) S ∧ Log l m ∧ l.length ≤ 8 := by
  have r9 := drawn_lt ns (at_ + 1) (many := 9) (by decide)
  have r50 := drawn_lt ns at_ (many := 50) (by decide)
  have k9 := rng1_ok (j := drawnF ns (at_ + 1) 9) (by omega)
  have e50 := drawn_ev ns hn at_ 50 (by decide) S
  have e9 := drawn_ev ns hn (at_ + 1) 9 (by decide) S
  obtain ⟨ρ', e, l, m, s4, s5, s6, s7, s8, s9, rfl, hl, hL, hm⟩ := forL_inv (t := tgName 4) (g := b_law_log_1) (S := S) (LI ns at_) (rngD 0 (drawnF ns (at_ + 1) 9).toNat) 0 [some (.dat (.scr ns)), some (.dat (.int at_)), some (.own []), some (.dat (.int (drawnF ns at_ 50))), none, none, none, none, none, none]
    ⟨_, _, _, _, _, _, _, _, rfl, rfl, ⟨by simp, rfl, by simp, r50.1⟩, by simp; omega⟩ (fun j x ρ hx h => by
      obtain ⟨rfl, hj⟩ := rng_at hx
      exact body_ok ns hn at_ S (0 + j) (by omega) ρ _ h)
  refine ⟨l, m, ?_, hL, by rw [hl, rng_len]; omega⟩
  simp [m_law_log, g_law_log, e50, e9, k9, l0, e, sFreeze]
end BW
namespace BW
open PySem L2
theorem deq_ints : ∀ a b : List Int, deq (.lst (a.map .int)) (.lst (b.map .int)) = decide (a = b) := by
  have key : ∀ a b : List Int, PyData.eqvAll (toPys (a.map .int)) (toPys (b.map .int)) = decide (a = b) := by
    intro a
    induction a with
    | nil => intro b; cases b <;> simp [toPys, PyData.eqvAll]
    | cons x a ih =>
      intro b
      cases b with
      | nil => simp [toPys, PyData.eqvAll]
      | cons y b => 
        simp only [List.map_cons, toPys, PyData.eqvAll, ih b, toPy, PyData.eqv]
        by_cases h1 : x = y <;> by_cases h2 : a = b <;> simp [h1, h2]
  intro a b
  show PyData.eqv (.list _) (.list _) = _
  simp only [PyData.eqv]
  exact key a b
theorem okD_ints (a : List Int) : okD 12 (.lst (a.map .int)) = true := by
  simp only [okD, List.all_map, List.all_eq_true]
  exact fun _ _ => rfl
theorem adj_pair {l : List D} : adj l = true ↔ (l.map headI).Pairwise (· ≤ ·) := by
  induction l with
  | nil => simp [adj]
  | cons a l ih =>
    cases l with
    | nil => simp [adj]
    | cons b l =>
      simp only [adj, Bool.and_eq_true, decide_eq_true_eq, ih, List.map_cons, List.pairwise_cons]
      constructor
      · rintro ⟨h1, h2, h3⟩
        refine ⟨fun z hz => ?_, h2, h3⟩
        rcases List.mem_cons.mp hz with e | e
        · rw [e]; exact h1
        · exact Int.le_trans h1 (h2 z e)
      · rintro ⟨h1, h2, h3⟩
        exact ⟨h1 _ List.mem_cons_self, h2, h3⟩
theorem sort_adj (l : List D) : decide (l.map headI = isort (l.map headI)) = adj l := by
  cases h : adj l with
  | true => exact decide_eq_true (perm_le_eq (isort_perm _).symm (adj_pair.mp h) (isort_le _))
  | false =>
    refine decide_eq_false fun e => ?_
    have : adj l = true := adj_pair.mpr (by rw [e]; exact isort_le _)
    rw [h] at this
    cases this
theorem ints_map : ∀ ns : List Int, ints? (ns.map .int) = some ns
  | [] => rfl
  | n :: ns => by simp [ints?, ints_map ns]
theorem at_mem {l : List D} {i : Int} (h : 0 ≤ i ∧ i < l.length) : ∃ o ∈ l, atI l i = some o ∧ ixN l.length i = some i.toNat := by
  have hj : i.toNat < l.length := by omega
  have e : ixN l.length i = some i.toNat := by
    unfold ixN
    rw [if_pos h.1, if_pos (by omega)]
  refine ⟨l[i.toNat], List.getElem_mem hj, ?_, e⟩
  unfold atI
  rw [e]
  simp [hj]
theorem ix_mem (S : Store) {l : List D} {i : Int} (h : 0 ≤ i ∧ i < l.length) : ∃ o ∈ l, gIx (.lst l) (.int i) S = some o := by
  obtain ⟨o, ho, e, _⟩ := at_mem h
  exact ⟨o, ho, e⟩
theorem cut_mem {l : List D} {lo hi : Option Int} {x : D} (h : x ∈ cutD l lo hi) : x ∈ l := List.mem_of_mem_drop (List.mem_of_mem_take h)
theorem cut_len (l : List D) (lo hi : Option Int) : (cutD l lo hi).length ≤ l.length := by unfold cutD; simp; omega
def lastRow : D := .tup [.int 999, .str "arm", .tup [.int 1, .tup [.int 0, .int 5]]]
theorem lastRow_ok : Row lastRow := ⟨by decide +kernel, by decide +kernel⟩
def oddL : List D := [.non, .bl true, .str "1", .int (-1), .int 1000000, .int 999999, .int 0, .int 10, .tup [.int 1, .tup [.int 3]], .tup [.int 3, .tup []], .tup [.int 0, .tup [.int 12]], .tup [.int 0, .lst [.int 1]], .tup [.int 0], .tup [.bl true, .tup []]]
def wordL : List D := [.str "arm", .str "lift", .str "opened", .str "closed", .str "moved", .str "wait", .str "go", .non, .int 5]
theorem oddL_ok : ∀ x ∈ oddL, PD 4 x = true := by
  have : oddL.all (PD 4) = true := by decide +kernel
  exact List.all_eq_true.mp this
theorem wordL_ok : ∀ x ∈ wordL, PD 4 x = true := by
  have : wordL.all (PD 4) = true := by decide +kernel
  exact List.all_eq_true.mp this
/-- the last third of a turn, for any spoilt list -/
def tailG : Stm := (sSeq (sSet 10 (f2 (gEq false) (fFrz (fComp (fItems (fV 4)) (tgName 13) (fNot (fB (fM 1 m_law_is_entry (fCons (fV 13) fNil)))) (fV 13) [13])) (fLst fNil)))
    (sSeq (sSet 10 (vAnd (fV 10) (f2 (gEq false) (fFrz (fComp (fItems (fV 4)) (tgName 13) fYes (f2 gIx (fV 13) (fC (.int 0))) [13])) (fN gSorted (fCons (fFrz (fComp (fItems (fV 4)) (tgName 13) fYes (f2 gIx (fV 13) (fC (.int 0))) [13])) fNil)))))
    (sSeq (sSet 11 (fM 1 m_is_log (fCons (fV 4) fNil)))
    (sIf (fOr (fNot (fB (fIsi isBoolD (fV 11)))) (fB (f2 (gEq true) (fV 11) (fV 10)))) (sRet (fC (.bl false))) sNil))))
theorem eq_bl (S : Store) (b : Bool) : gEq true (.bl b) (.bl b) S = some (.bl false) := by
  rw [eq_ok S true rfl rfl]
  cases b <;> rfl
theorem tail_ok {s0 s1 s2 s3 s5 s6 s7 s8 s9 s10 s11 s12 s13 : Option Slot} {L : List D} (S : Store) (hl : L.length ≤ 1000) (hx : ∀ x ∈ L, PD 8 x = true) :
    ∃ s10' s11', tailG [s0, s1, s2, s3, some (.dat (.lst L)), s5, s6, s7, s8, s9, s10, s11, s12, s13] S = .next [s0, s1, s2, s3, some (.dat (.lst L)), s5, s6, s7, s8, s9, s10', s11', s12, s13] S := by
  have hP : PD 9 (.lst L) = true := by simp [PD, hl]; exact hx
  have il := is_log_ev S hP
  have c1 := compL_filter (t := tgName 13) (ft := fNot (fB (fM 1 m_law_is_entry (fCons (fV 13) fNil)))) (fe := fV 13) (ρ := [s0, s1, s2, s3, some (.dat (.lst L)), s5, s6, s7, s8, s9, s10, s11, s12, none]) (S := S) (fun z => !entryOk z) (fun z => z) L [] (fun z hz => ⟨_, rfl, by simp [law_is_entry_ev S (hx z hz)], fun _ => by simp⟩) (by simp; omega)
  have q := eq_nil S (L.filter fun z => !entryOk z) (okD_pd (n := 8) (by decide) fun x h => hx x (List.mem_filter.mp h).1)
  rw [filt_nil] at q
  simp only [List.nil_append, List.map_id'] at c1
  cases ha : L.all entryOk with
  | false =>
    rw [ha] at q il
    refine ⟨some (.dat (.bl false)), some (.dat (.bl false)), ?_⟩
    simp [tailG, wipeE, c1, q, l0, il, isBoolD, eq_bl]
  | true =>
    rw [ha] at q il
    have ha' := List.all_eq_true.mp ha
    have c2 := fun b => compL_map (t := tgName 13) (fe := f2 gIx (fV 13) (fC (.int 0))) (ρ := [s0, s1, s2, s3, some (.dat (.lst L)), s5, s6, s7, s8, s9, some (.dat (.bl b)), s11, s12, none]) (S := S) (fun z => .int (headI z)) L [] (fun z hz => ⟨_, rfl, by
      obtain ⟨s1, c1, e1⟩ := entry_head (ha' z hz)
      have i1 : gIx z (.int 0) S = some (.int (headI z)) := by rw [e1]; rfl
      simp [i1]⟩) (by simp; omega)
    simp only [List.nil_append, show (L.map fun z => D.int (headI z)) = (L.map headI).map D.int by rw [List.map_map]; rfl] at c2
    have gs : gSorted [.lst ((L.map headI).map D.int)] S = some (.lst ((isort (L.map headI)).map .int)) := by simp only [gSorted, ints_map]; rfl
    have ge : gEq false (.lst ((L.map headI).map D.int)) (.lst ((isort (L.map headI)).map .int)) S = some (.bl (adj L)) := by
      rw [eq_ok S false (okD_ints _) (okD_ints _), deq_ints, sort_adj, Bool.false_xor]
    simp only [Bool.true_and] at il
    refine ⟨some (.dat (.bl (adj L))), some (.dat (.bl (adj L))), ?_⟩
    generalize (L.map headI).map D.int = H at c2 gs ge
    simp [tailG, wipeE, c1, q, l0, il, isBoolD, eq_bl, c2, gs, ge]
def turnG : Stm := (sSeq (sSetOwn 4 (fAddL (fN gList (fCons (fV 1) fNil)) (fLst (fCons (fTup (fCons (fC (.int 999)) (fCons (fC (.str "arm")) (fCons (fTup (fCons (fC (.int 1)) (fCons (fTup (fCons (fC (.int 0)) (fCons (fC (.int 5)) fNil))) fNil))) fNil)))) fNil))))
    (sSeq (sSet 5 (fM 3 m_law_drawn (fCons (fV 0) (fCons (f2 gAdd (fC (.int 90)) (f2 gMul (fC (.int 5)) (fV 2))) (fCons (fLenOwn 4) fNil)))))
    (sSeq (sSet 6 (fIxOwn 4 (fV 5)))
    (sSeq (sSet 7 (fM 3 m_law_drawn (fCons (fV 0) (fCons (f2 gAdd (fC (.int 91)) (f2 gMul (fC (.int 5)) (fV 2))) (fCons (fC (.int 3)) fNil)))))
    (sSeq (sSet 8 (fLst (fCons (fC .non) (fCons (fC (.bl true)) (fCons (fC (.str "1")) (fCons (fNeg (fC (.int 1))) (fCons (fC (.int 1000000)) (fCons (fC (.int 999999)) (fCons (fC (.int 0)) (fCons (fC (.int 10)) (fCons (fTup (fCons (fC (.int 1)) (fCons (fTup (fCons (fC (.int 3)) fNil)) fNil))) (fCons (fTup (fCons (fC (.int 3)) (fCons (fTup fNil) fNil))) fNil))))))))))))
    (sSeq (sSet 8 (f2 gAdd (fV 8) (fLst (fCons (fTup (fCons (fC (.int 0)) (fCons (fTup (fCons (fC (.int 12)) fNil)) fNil))) (fCons (fTup (fCons (fC (.int 0)) (fCons (fLst (fCons (fC (.int 1)) fNil)) fNil))) (fCons (fTup (fCons (fC (.int 0)) fNil)) (fCons (fTup (fCons (fC (.bl true)) (fCons (fTup fNil) fNil))) fNil)))))))
    (sSeq (sSet 3 (f2 gIx (fV 8) (fM 3 m_law_drawn (fCons (fV 0) (fCons (f2 gAdd (fC (.int 92)) (f2 gMul (fC (.int 5)) (fV 2))) (fCons (fC (.int 14)) fNil))))))
    (sSeq (sSet 9 (fLst (fCons (fC (.str "arm")) (fCons (fC (.str "lift")) (fCons (fC (.str "opened")) (fCons (fC (.str "closed")) (fCons (fC (.str "moved")) (fCons (fC (.str "wait")) (fCons (fC (.str "go")) (fCons (fC .non) (fCons (fC (.int 5)) fNil)))))))))))
    (sSeq (sIf (fB (f2 (gEq false) (fV 7) (fC (.int 1)))) (sSet 3 (f2 gIx (fV 9) (fM 3 m_law_drawn (fCons (fV 0) (fCons (f2 gAdd (fC (.int 92)) (f2 gMul (fC (.int 5)) (fV 2))) (fCons (fC (.int 9)) fNil)))))) sNil)
    (sSeq (sPutOwn 4 (fV 5) (f2 gAdd (f2 gAdd (fCut (fV 6) oNone (oSome (fV 7))) (fTup (fCons (fV 3) fNil))) (fCut (fV 6) (oSome (f2 gAdd (fV 7) (fC (.int 1)))) oNone)))
    (sSeq (sIf (fB (f2 (gEq false) (fM 3 m_law_drawn (fCons (fV 0) (fCons (f2 gAdd (fC (.int 93)) (f2 gMul (fC (.int 5)) (fV 2))) (fCons (fC (.int 6)) fNil)))) (fC (.int 0)))) (sPutOwn 4 (fV 5) (f2 gIx (fLst (fCons (fN gList (fCons (fV 6) fNil)) (fCons (fCut (fV 6) oNone (oSome (fC (.int 2)))) (fCons (f2 gAdd (fV 6) (fTup (fCons (fC (.int 0)) fNil))) fNil)))) (fV 7))) sNil)
    (sFreeze 4 tailG))))))))))))
theorem turn_eq : b_law_1 = turnG := rfl
theorem l9 : (9 : Nat) ≤ LIM := lim_small (by decide)
theorem l10 : (10 : Nat) ≤ LIM := lim_small (by decide)
theorem l4 : (4 : Nat) ≤ LIM := lim_small (by decide)
def TI (ns : List Int) (l : List D) (ρ : Env) : Prop := ∃ s2 s3 s4 s5 s6 s7 s8 s9 s10 s11 s12 s13, ρ = [some (.dat (.scr ns)), some (.dat (.lst l)), s2, s3, s4, s5, s6, s7, s8, s9, s10, s11, s12, s13]
theorem Row.tup {x : D} (h : Row x) : ∃ a b c, x = .tup [a, b, c] ∧ PD 4 a = true ∧ PD 4 b = true ∧ PD 4 c = true := by
  obtain ⟨s, c, e⟩ := entry_head h.2
  refine ⟨_, _, _, e, ?_⟩
  have h1 := h.1
  rw [e] at h1
  have := (PD_tup h1).2
  exact ⟨this _ (by simp), this _ (by simp), this _ (by simp)⟩
theorem add_tup (S : Store) {a b : List D} (h : a.length + b.length ≤ 1000) : gAdd (.tup a) (.tup b) S = some (.tup (a ++ b)) := by
  show (if _ then _ else _) = _
  rw [if_pos (lim_small h)]
theorem add_lst (S : Store) {a b : List D} (h : a.length + b.length ≤ 1000) : gAdd (.lst a) (.lst b) S = some (.lst (a ++ b)) := by
  show (if _ then _ else _) = _
  rw [if_pos (lim_small h)]
theorem turn_ok (ns : List Int) (hn : ns.length ≤ 63) (S : Store) {l : List D} (hr : ∀ x ∈ l, Row x) (hl : l.length ≤ 8) (ρ : Env) (t : Int) (h : TI ns l ρ) : ∃ ρ1 ρ2, tgName 2 (.int t) ρ = some ρ1 ∧ b_law_1 ρ1 S = .next ρ2 S ∧ TI ns l ρ2 := by
  obtain ⟨s2, s3, s4, s5, s6, s7, s8, s9, s10, s11, s12, s13, rfl⟩ := h
  have m5 : gMul (.int 5) (.int t) S = some (.int (5 * t)) := mul_ok S (.inl (by decide))
  have dr := fun k many (h : (0 : Int) < many) => drawn_ev ns hn k many h S
  have hlen : (l ++ [lastRow]).length = l.length + 1 := by simp
  have dN := dr (90 + 5 * t) ((l.length : Int) + 1) (by omega)
  have d91 := dr (91 + 5 * t) 3 (by decide)
  have d14 := dr (92 + 5 * t) 14 (by decide)
  have d9 := dr (92 + 5 * t) 9 (by decide)
  have d6 := dr (93 + 5 * t) 6 (by decide)
  have rN := drawn_lt ns (90 + 5 * t) (many := (l.length : Int) + 1) (by omega)
  have r3 := drawn_lt ns (91 + 5 * t) (many := 3) (by decide)
  have r14 := drawn_lt ns (92 + 5 * t) (many := 14) (by decide)
  have r9 := drawn_lt ns (92 + 5 * t) (many := 9) (by decide)
  have hrow : ∀ x ∈ l ++ [lastRow], Row x := by
    intro x hx
    rcases List.mem_append.mp hx with hx | hx
    · exact hr x hx
    · rw [List.mem_singleton.mp hx]; exact lastRow_ok
  obtain ⟨row, hmem, eat, eix⟩ := at_mem (l := l ++ [lastRow]) (i := drawnF ns (90 + 5 * t) ((l.length : Int) + 1)) (by rw [hlen]; omega)
  obtain ⟨o1, ho1, eo1⟩ := ix_mem S (l := oddL) (i := drawnF ns (92 + 5 * t) 14) (by show _ ∧ _ < (14 : Int); omega)
  obtain ⟨o2, ho2, eo2⟩ := ix_mem S (l := wordL) (i := drawnF ns (92 + 5 * t) 9) (by show _ ∧ _ < (9 : Int); omega)
  obtain ⟨a, b, c, erow, pa, pb, pc⟩ := (hrow row hmem).tup
  subst erow
  have ga : gAdd (.lst [.non, .bl true, .str "1", .int (-1), .int 1000000, .int 999999, .int 0, .int 10, .tup [.int 1, .tup [.int 3]], .tup [.int 3, .tup []]]) (.lst [.tup [.int 0, .tup [.int 12]], .tup [.int 0, .lst [.int 1]], .tup [.int 0], .tup [.bl true, .tup []]]) S = some (.lst oddL) := add_lst S (by decide)
  have hL : l.length + 1 ≤ LIM := lim_small (by omega)
  have pw : PD 4 (if drawnF ns (91 + 5 * t) 3 = 1 then o2 else o1) = true := by
    split
    · exact wordL_ok _ ho2
    · exact oddL_ok _ ho1
  have pabc : ∀ x ∈ [a, b, c], PD 4 x = true := by
    intro x hx
    simp only [List.mem_cons, List.not_mem_nil, or_false] at hx
    rcases hx with rfl | rfl | rfl <;> assumption
  have lx := cut_len [a, b, c] none (some (drawnF ns (91 + 5 * t) 3))
  have ly := cut_len [a, b, c] (some (drawnF ns (91 + 5 * t) 3 + 1)) none
  have lz := cut_len [a, b, c] none (some 2)
  have px := fun x (hx : x ∈ cutD [a, b, c] none (some (drawnF ns (91 + 5 * t) 3))) => pabc x (cut_mem hx)
  have py := fun x (hx : x ∈ cutD [a, b, c] (some (drawnF ns (91 + 5 * t) 3 + 1)) none) => pabc x (cut_mem hx)
  have pz := fun x (hx : x ∈ cutD [a, b, c] none (some 2)) => pabc x (cut_mem hx)
  have cx : gCut (.tup [a, b, c]) none (some (drawnF ns (91 + 5 * t) 3)) = some (.tup (cutD [a, b, c] none (some (drawnF ns (91 + 5 * t) 3)))) := rfl
  have cy : gCut (.tup [a, b, c]) (some (drawnF ns (91 + 5 * t) 3 + 1)) none = some (.tup (cutD [a, b, c] (some (drawnF ns (91 + 5 * t) 3 + 1)) none)) := rfl
  have cz : gCut (.tup [a, b, c]) none (some 2) = some (.tup (cutD [a, b, c] none (some 2))) := rfl
  generalize cutD [a, b, c] none (some (drawnF ns (91 + 5 * t) 3)) = X at lx px cx
  generalize cutD [a, b, c] (some (drawnF ns (91 + 5 * t) 3 + 1)) none = Y at ly py cy
  generalize cutD [a, b, c] none (some 2) = Z at lz pz cz
  simp only [List.length_cons, List.length_nil] at lx ly lz
  have a1 : ∀ o : D, gAdd (.tup X) (.tup [o]) S = some (.tup (X ++ [o])) := fun o => add_tup S (by simp; omega)
  have a2 : ∀ o : D, gAdd (.tup (X ++ [o])) (.tup Y) S = some (.tup (X ++ [o] ++ Y)) := fun o => add_tup S (by simp; omega)
  have a3 : gAdd (.tup [a, b, c]) (.tup [.int 0]) S = some (.tup [a, b, c, .int 0]) := add_tup S (by simp)
  obtain ⟨z, hz, ez⟩ := ix_mem S (l := [.lst [a, b, c], .tup Z, .tup [a, b, c, .int 0]]) (i := drawnF ns (91 + 5 * t) 3) (by simp; omega)
  have hzp : PD 8 z = true := by
    simp only [List.mem_cons, List.not_mem_nil, or_false] at hz
    rcases hz with rfl | rfl | rfl
    · exact PD_le (n := 5) (by simp [PD, pa, pb, pc]) (by decide)
    · exact PD_le (n := 5) (by simp [PD]; exact ⟨by omega, pz⟩) (by decide)
    · exact PD_le (n := 5) (by simp [PD, pa, pb, pc]) (by decide)
  have hop : ∀ o : D, PD 4 o = true → PD 8 (.tup (X ++ [o] ++ Y)) = true := fun o ho => by
    refine PD_le (n := 5) ?_ (by decide)
    simp only [PD, Bool.and_eq_true, decide_eq_true_eq, List.all_eq_true]
    refine ⟨by simp; omega, fun x hx => ?_⟩
    rcases List.mem_append.mp hx with hx | hx
    · rcases List.mem_append.mp hx with hx | hx
      · exact px x hx
      · rw [List.mem_singleton.mp hx]; exact ho
    · exact py x hx
  have hrow8 : ∀ x ∈ l ++ [lastRow], PD 8 x = true := fun x hx => PD_le (hrow x hx).1 (by decide)
  have tg : ∀ d, tgName 2 d [some (.dat (.scr ns)), some (.dat (.lst l)), s2, s3, s4, s5, s6, s7, s8, s9, s10, s11, s12, s13] = some [some (.dat (.scr ns)), some (.dat (.lst l)), some (.dat d), s3, s4, s5, s6, s7, s8, s9, s10, s11, s12, s13] := fun d => rfl
  have pset : ∀ (M : List D) (k : Nat) (d : D), (∀ x ∈ M, PD 8 x = true) → PD 8 d = true → ∀ x ∈ M.set k d, PD 8 x = true := fun M k d hM hd x hx => by
    rcases List.mem_or_eq_of_mem_set hx with hx | hx
    · exact hM x hx
    · rw [hx]; exact hd
  generalize drawnF ns (91 + 5 * t) 3 = p at *
  generalize hq : drawnF ns (90 + 5 * t) ((l.length : Int) + 1) = q at *
  have e91 : (p == 1) = decide (p = 1) := by by_cases h : p = 1 <;> simp [h]
  have key : ∀ o : D, PD 4 o = true → ∀ y3 y4 y5 y6 y7 y8 y9 y10 y11 y12, ∃ ρ2, (sFreeze 4 tailG) [some (.dat (.scr ns)), some (.dat (.lst l)), some (.dat (.int t)), y3, some (.own ((l ++ [lastRow]).set q.toNat (.tup (X ++ [o] ++ Y)))), y5, y6, y7, y8, y9, y10, y11, y12, y4] S = .next ρ2 S ∧ TI ns l ρ2 := fun o ho y3 y4 y5 y6 y7 y8 y9 y10 y11 y12 => by
    obtain ⟨z1, z2, e⟩ := tail_ok (s0 := some (.dat (.scr ns))) (s1 := some (.dat (.lst l))) (s2 := some (.dat (.int t))) (s3 := y3) (s5 := y5) (s6 := y6) (s7 := y7) (s8 := y8) (s9 := y9) (s10 := y10) (s11 := y11) (s12 := y12) (s13 := y4) (L := (l ++ [lastRow]).set q.toNat (.tup (X ++ [o] ++ Y))) S (by rw [List.length_set, hlen]; omega) (pset _ _ _ hrow8 (hop o ho))
    exact ⟨_, e, _, _, _, _, _, _, _, _, _, _, _, _, rfl⟩
  have key2 : ∀ o : D, PD 4 o = true → ∀ y3 y4 y5 y6 y7 y8 y9 y10 y11 y12, ∃ ρ2, (sFreeze 4 tailG) [some (.dat (.scr ns)), some (.dat (.lst l)), some (.dat (.int t)), y3, some (.own (((l ++ [lastRow]).set q.toNat (.tup (X ++ [o] ++ Y))).set q.toNat z)), y5, y6, y7, y8, y9, y10, y11, y12, y4] S = .next ρ2 S ∧ TI ns l ρ2 := fun o ho y3 y4 y5 y6 y7 y8 y9 y10 y11 y12 => by
    obtain ⟨z1, z2, e⟩ := tail_ok (s0 := some (.dat (.scr ns))) (s1 := some (.dat (.lst l))) (s2 := some (.dat (.int t))) (s3 := y3) (s5 := y5) (s6 := y6) (s7 := y7) (s8 := y8) (s9 := y9) (s10 := y10) (s11 := y11) (s12 := y12) (s13 := y4) (L := ((l ++ [lastRow]).set q.toNat (.tup (X ++ [o] ++ Y))).set q.toNat z) S (by rw [List.length_set, List.length_set, hlen]; omega) (pset _ _ _ (pset _ _ _ hrow8 (hop o ho)) hzp)
    exact ⟨_, e, _, _, _, _, _, _, _, _, _, _, _, _, rfl⟩
  rw [turn_eq]
  suffices hh : ∃ ρ2, turnG [some (.dat (.scr ns)), some (.dat (.lst l)), some (.dat (.int t)), s3, s4, s5, s6, s7, s8, s9, s10, s11, s12, s13] S = .next ρ2 S ∧ TI ns l ρ2 from let ⟨ρ2, e, T⟩ := hh; ⟨_, ρ2, tg _, e, T⟩
  have ll : ∀ k : Nat, k ≤ 20 → k ≤ LIM := fun k hk => lim_small (by omega)
  have lls := fun k => ll k
  simp only [lastRow] at key key2 eat eix hlen
  have ga' := ga
  have eo1' := eo1
  simp only [wordL] at eo2
  rw [hlen] at eix
  cases h1 : p == 1 with
  | true =>
    cases h6 : drawnF ns (93 + 5 * t) 6 == 0 with
    | true =>
      obtain ⟨ρ2, e, T⟩ := key2 o2 (wordL_ok _ ho2) (some (.dat o2)) s13 (some (.dat (.int q))) (some (.dat (.tup [a, b, c]))) (some (.dat (.int p))) (some (.dat (.lst oddL))) (some (.dat (.lst wordL))) s10 s11 s12
      refine ⟨ρ2, ?_, T⟩
      rw [← e]
      simp [wordL, turnG, fAddL, fLenOwn, fIxOwn, sPutOwn, gList, ll, hL, m5, dN, eat, d91, ga, d14, eo1, d9, eo2, cx, cy, cz, a1, a2, a3, d6, h6, ez, eix, h1]
    | false =>
      obtain ⟨ρ2, e, T⟩ := key o2 (wordL_ok _ ho2) (some (.dat o2)) s13 (some (.dat (.int q))) (some (.dat (.tup [a, b, c]))) (some (.dat (.int p))) (some (.dat (.lst oddL))) (some (.dat (.lst wordL))) s10 s11 s12
      refine ⟨ρ2, ?_, T⟩
      rw [← e]
      simp [wordL, turnG, fAddL, fLenOwn, fIxOwn, sPutOwn, gList, ll, hL, m5, dN, eat, d91, ga, d14, eo1, d9, eo2, cx, cy, cz, a1, a2, a3, d6, h6, ez, eix, h1]
  | false =>
    cases h6 : drawnF ns (93 + 5 * t) 6 == 0 with
    | true =>
      obtain ⟨ρ2, e, T⟩ := key2 o1 (oddL_ok _ ho1) (some (.dat o1)) s13 (some (.dat (.int q))) (some (.dat (.tup [a, b, c]))) (some (.dat (.int p))) (some (.dat (.lst oddL))) (some (.dat (.lst wordL))) s10 s11 s12
      refine ⟨ρ2, ?_, T⟩
      rw [← e]
      simp [wordL, turnG, fAddL, fLenOwn, fIxOwn, sPutOwn, gList, ll, hL, m5, dN, eat, d91, ga, d14, eo1, d9, eo2, cx, cy, cz, a1, a2, a3, d6, h6, ez, eix, h1]
    | false =>
      obtain ⟨ρ2, e, T⟩ := key o1 (oddL_ok _ ho1) (some (.dat o1)) s13 (some (.dat (.int q))) (some (.dat (.tup [a, b, c]))) (some (.dat (.int p))) (some (.dat (.lst oddL))) (some (.dat (.lst wordL))) s10 s11 s12
      refine ⟨ρ2, ?_, T⟩
      rw [← e]
      simp [wordL, turnG, fAddL, fLenOwn, fIxOwn, sPutOwn, gList, ll, hL, m5, dN, eat, d91, ga, d14, eo1, d9, eo2, cx, cy, cz, a1, a2, a3, d6, h6, ez, eix, h1]
theorem lawOk : LawOk m_law := by
  intro ns hn
  obtain ⟨l, m, e, hL, hl⟩ := law_log_ev ns hn 0 []
  have hP : PD 9 (.lst l) = true := by
    simp only [PD, Bool.and_eq_true, decide_eq_true_eq, List.all_eq_true]
    exact ⟨by omega, fun x hx => PD_le (hL.row x hx).1 (by decide)⟩
  have i1 := is_log_ev [] hP
  rw [List.all_eq_true.mpr (fun x hx => (hL.row x hx).2), hL.adj] at i1
  have i2 : m_is_log [.lst []] [] = .ok (.bl true) [] := is_log_ev (l := []) [] rfl
  have k4 : kRng1 [.int 4] = some (rngD 0 4) := rng1_ok (j := 4) (by decide)
  obtain ⟨ρ', ef, s2, s3, s4, s5, s6, s7, s8, s9, s10, s11, s12, s13, rfl⟩ := forL_inv (t := tgName 2) (g := b_law_1) (S := []) (fun _ ρ => TI ns l ρ) (rngD 0 4) 0 [some (.dat (.scr ns)), some (.dat (.lst l)), none, none, none, none, none, none, none, none, none, none, none, none] ⟨_, _, _, _, _, _, _, _, _, _, _, _, rfl⟩ (fun j x ρ hx h => by
    obtain ⟨rfl, hj⟩ := rng_at hx
    exact turn_ok ns hn [] hL.row hl ρ _ h)
  have j1 : m_is_log [.non] [] = .ok (.bl false) [] := is_log_no (n := 0) [] rfl (by intro l h; cases h)
  have j2 : m_is_log [.tup l] [] = .ok (.bl false) [] := is_log_no (n := 9) [] (by simpa [PD] using hP) (by intro l h; cases h)
  have j3 : m_is_log [.str "log"] [] = .ok (.bl false) [] := is_log_no (n := 0) [] (by decide +kernel) (by intro l h; cases h)
  have j4 : m_is_log [.int 5] [] = .ok (.bl false) [] := is_log_no (n := 0) [] rfl (by intro l h; cases h)
  have j5 : m_is_log [.lst [.non]] [] = .ok (.bl false) [] := (is_log_ev (l := [.non]) [] rfl).trans (congrArg (fun b => Res.ok (D.bl b) []) (by decide +kernel))
  have j6 : m_is_log [.lst [.lst []]] [] = .ok (.bl false) [] := (is_log_ev (l := [.lst []]) [] rfl).trans (congrArg (fun b => Res.ok (D.bl b) []) (by decide +kernel))
  have j7 : m_is_log [.lst [.tup [.int 5, .str "wait"]]] [] = .ok (.bl false) [] := (is_log_ev (l := [.tup [.int 5, .str "wait"]]) [] (by decide +kernel)).trans (congrArg (fun b => Res.ok (D.bl b) []) (by decide +kernel))
  have j8 : m_is_log [.lst [.tup [.int 5, .str "wait", .non], .tup [.int 4, .str "wait", .non]]] [] = .ok (.bl false) [] := (is_log_ev (l := [.tup [.int 5, .str "wait", .non], .tup [.int 4, .str "wait", .non]]) [] (by decide +kernel)).trans (congrArg (fun b => Res.ok (D.bl b) []) (by decide +kernel))
  have ll : ∀ k : Nat, k ≤ 20 → k ≤ LIM := fun k hk => lim_small (by omega)
  have q : gEq false (.lst []) (.lst []) [] = some (.bl true) := eq_nil [] [] rfl
  refine ⟨[], ?_⟩
  simp [m_law, g_law, e, i1, i2, gIs, ll, k4, ef, gTuple, compL, wipeE, j1, j2, j3, j4, j5, j6, j7, j8, q]
end BW
namespace BW
open PySem PySem.Spec PyProof.Rows L2
theorem all_mk {l : PySem.W.OpenLaw} {w : World} {K : PySem.W.Frag} {h : Heap} {mg : Str → Option Value} {fa : Addr} (X : K.In h) (G : h.Ns mainGlobals mg) (hfa : mg "law" = some (.ref fa))
    {f0 : Addr} {od0 an0 : Option Addr} {sl0 : Array (Option Value)} {oc0 kV0 dc0 pm0 cd0 ct0 : Value}
    {f1 : Addr} {od1 an1 : Option Addr} {sl1 : Array (Option Value)} {oc1 kV1 dc1 pm1 cd1 ct1 : Value}
    {f2 : Addr} {od2 an2 : Option Addr} {sl2 : Array (Option Value)} {oc2 kV2 dc2 pm2 cd2 ct2 : Value}
    {f3 : Addr} {od3 an3 : Option Addr} {sl3 : Array (Option Value)} {oc3 kV3 dc3 pm3 cd3 ct3 : Value}
    {f4 : Addr} {od4 an4 : Option Addr} {sl4 : Array (Option Value)} {oc4 kV4 dc4 pm4 cd4 ct4 : Value}
    {f5 : Addr} {od5 an5 : Option Addr} {sl5 : Array (Option Value)} {oc5 kV5 dc5 pm5 cd5 ct5 : Value}
    {f6 : Addr} {od6 an6 : Option Addr} {sl6 : Array (Option Value)} {oc6 kV6 dc6 pm6 cd6 ct6 : Value}
    {f7 : Addr} {od7 an7 : Option Addr} {sl7 : Array (Option Value)} {oc7 kV7 dc7 pm7 cd7 ct7 : Value}
    {f8 : Addr} {od8 an8 : Option Addr} {sl8 : Array (Option Value)} {oc8 kV8 dc8 pm8 cd8 ct8 : Value}
    {ga0 : Addr} {god0 : Option Addr} {gn0 : Nat} {gsl0 : Array (Option Value)}
    {t0 t1 t2 t3 t4 t5 t6 : Tok}
    (a0 : PySem.W.nsIn K mainGlobals "is_number" = some (some (.ref f0)))
    (l0 : K.lookup f0 = some ⟨oc0, od0, .func (PySem.W.fnOf "is_number" "is_number" (defArgs st_is_number) (defBody st_is_number) (defScope st_is_number) .none kV0 dc0 pm0 an0 cd0 ct0), sl0⟩)
    (c0 : PySem.W.codeIn K cd0 "is_number" = true) (k0 : PySem.W.keepIn K (.ref f0) = true)
    (a1 : PySem.W.nsIn K mainGlobals "is_entry" = some (some (.ref f1)))
    (l1 : K.lookup f1 = some ⟨oc1, od1, .func (PySem.W.fnOf "is_entry" "is_entry" (defArgs st_is_entry) (defBody st_is_entry) (defScope st_is_entry) .none kV1 dc1 pm1 an1 cd1 ct1), sl1⟩)
    (c1 : PySem.W.codeIn K cd1 "is_entry" = true) (k1 : PySem.W.keepIn K (.ref f1) = true)
    (a2 : PySem.W.nsIn K mainGlobals "is_log" = some (some (.ref f2)))
    (l2 : K.lookup f2 = some ⟨oc2, od2, .func (PySem.W.fnOf "is_log" "is_log" (defArgs st_is_log) (defBody st_is_log) (defScope st_is_log) .none kV2 dc2 pm2 an2 cd2 ct2), sl2⟩)
    (c2 : PySem.W.codeIn K cd2 "is_log" = true) (k2 : PySem.W.keepIn K (.ref f2) = true)
    (a3 : PySem.W.nsIn K mainGlobals "_law_cell" = some (some (.ref f3)))
    (l3 : K.lookup f3 = some ⟨oc3, od3, .func (PySem.W.fnOf "_law_cell" "_law_cell" (defArgs st_law_cell) (defBody st_law_cell) (defScope st_law_cell) .none kV3 dc3 pm3 an3 cd3 ct3), sl3⟩)
    (c3 : PySem.W.codeIn K cd3 "_law_cell" = true) (k3 : PySem.W.keepIn K (.ref f3) = true)
    (a4 : PySem.W.nsIn K mainGlobals "_law_drawn" = some (some (.ref f4)))
    (l4 : K.lookup f4 = some ⟨oc4, od4, .func (PySem.W.fnOf "_law_drawn" "_law_drawn" (defArgs st_law_drawn) (defBody st_law_drawn) (defScope st_law_drawn) .none kV4 dc4 pm4 an4 cd4 ct4), sl4⟩)
    (c4 : PySem.W.codeIn K cd4 "_law_drawn" = true) (k4 : PySem.W.keepIn K (.ref f4) = true)
    (a5 : PySem.W.nsIn K mainGlobals "_law_log" = some (some (.ref f5)))
    (l5 : K.lookup f5 = some ⟨oc5, od5, .func (PySem.W.fnOf "_law_log" "_law_log" (defArgs st_law_log) (defBody st_law_log) (defScope st_law_log) .none kV5 dc5 pm5 an5 cd5 ct5), sl5⟩)
    (c5 : PySem.W.codeIn K cd5 "_law_log" = true) (k5 : PySem.W.keepIn K (.ref f5) = true)
    (a6 : PySem.W.nsIn K mainGlobals "_law_is" = some (some (.ref f6)))
    (l6 : K.lookup f6 = some ⟨oc6, od6, .func (PySem.W.fnOf "_law_is" "_law_is" (defArgs st_law_is) (defBody st_law_is) (defScope st_law_is) .none kV6 dc6 pm6 an6 cd6 ct6), sl6⟩)
    (c6 : PySem.W.codeIn K cd6 "_law_is" = true) (k6 : PySem.W.keepIn K (.ref f6) = true)
    (a7 : PySem.W.nsIn K mainGlobals "_law_is_entry" = some (some (.ref f7)))
    (l7 : K.lookup f7 = some ⟨oc7, od7, .func (PySem.W.fnOf "_law_is_entry" "_law_is_entry" (defArgs st_law_is_entry) (defBody st_law_is_entry) (defScope st_law_is_entry) .none kV7 dc7 pm7 an7 cd7 ct7), sl7⟩)
    (c7 : PySem.W.codeIn K cd7 "_law_is_entry" = true) (k7 : PySem.W.keepIn K (.ref f7) = true)
    (a8 : PySem.W.nsIn K mainGlobals "law" = some (some (.ref f8)))
    (l8 : K.lookup f8 = some ⟨oc8, od8, .func (PySem.W.fnOf "law" "law" (defArgs st_law) (defBody st_law) (defScope st_law) .none kV8 dc8 pm8 an8 cd8 ct8), sl8⟩)
    (c8 : PySem.W.codeIn K cd8 "law" = true) (k8 : PySem.W.keepIn K (.ref f8) = true)
    (gv0 : PySem.W.nsIn K mainGlobals "WORDS" = some (some (.ref ga0)))
    (hv0 : K.lookup ga0 = some ⟨.type "tuple", god0, .seq #[(.str "arm" t0), (.str "lift" t1), (.str "opened" t2), (.str "closed" t3), (.str "moved" t4), (.str "wait" t5)] gn0, gsl0⟩)
    (gv1 : PySem.W.nsIn K mainGlobals "MOST_NUMBER" = some (some (.int 999999 t6)))
    (z_len : PySem.W.nsIn K mainGlobals "len" = some none)
    (z_isinstance : PySem.W.nsIn K mainGlobals "isinstance" = some none)
    (z_int : PySem.W.nsIn K mainGlobals "int" = some none)
    (z_bool : PySem.W.nsIn K mainGlobals "bool" = some none)
    (z_str : PySem.W.nsIn K mainGlobals "str" = some none)
    (z_tuple : PySem.W.nsIn K mainGlobals "tuple" = some none)
    (z_list : PySem.W.nsIn K mainGlobals "list" = some none)
    (z_set : PySem.W.nsIn K mainGlobals "set" = some none)
    (z_dict : PySem.W.nsIn K mainGlobals "dict" = some none)
    (z_all : PySem.W.nsIn K mainGlobals "all" = some none)
    (z_zip : PySem.W.nsIn K mainGlobals "zip" = some none)
    (z_enumerate : PySem.W.nsIn K mainGlobals "enumerate" = some none)
    (z_range : PySem.W.nsIn K mainGlobals "range" = some none)
    (z_sorted : PySem.W.nsIn K mainGlobals "sorted" = some none)
    (z_min : PySem.W.nsIn K mainGlobals "min" = some none)
    (z_max : PySem.W.nsIn K mainGlobals "max" = some none) :
    ∃ fd : FuncData, (∀ (s : Shared) (v : Value), BindsTo s fd ⟨[v], []⟩ [("script", v)]) ∧ ∀ base : Heap, K.In base → base.Ns mainGlobals mg → FnOk l.prog w K mg base (L2.CX l.prog w) 4 fa fd ["script"] (spM K (clOf K) 1 m_law) := by
  have e := hfa.symm.trans (PySem.W.mg_of X G a8)
  cases e
  have B : Bt mg := ⟨PySem.W.mg_none_of X G z_len, PySem.W.mg_none_of X G z_isinstance, PySem.W.mg_none_of X G z_int, PySem.W.mg_none_of X G z_bool, PySem.W.mg_none_of X G z_str, PySem.W.mg_none_of X G z_tuple, PySem.W.mg_none_of X G z_list, PySem.W.mg_none_of X G z_set, PySem.W.mg_none_of X G z_dict, PySem.W.mg_none_of X G z_all, PySem.W.mg_none_of X G z_zip, PySem.W.mg_none_of X G z_enumerate, PySem.W.mg_none_of X G z_range, PySem.W.mg_none_of X G z_sorted, PySem.W.mg_none_of X G z_min, PySem.W.mg_none_of X G z_max⟩
  have C : Ct K mg := ⟨⟨_, PySem.W.mg_of X G gv0, kTup (vs := [(.str "arm"), (.str "lift"), (.str "opened"), (.str "closed"), (.str "moved"), (.str "wait")]) hv0 (by simp) (.cons ⟨_, rfl⟩ (.cons ⟨_, rfl⟩ (.cons ⟨_, rfl⟩ (.cons ⟨_, rfl⟩ (.cons ⟨_, rfl⟩ (.cons ⟨_, rfl⟩ .nil)))))) fun w => (.cons (.str _) (.cons (.str _) (.cons (.str _) (.cons (.str _) (.cons (.str _) (.cons (.str _) .nil))))))⟩, ⟨_, PySem.W.mg_of X G gv1⟩, trivial⟩
  have F0 := fun_mk (st := st_is_number) l0 c0 k0
  have b0 := F0.binds (ps := ["thing", "low", "high"]) fun _ _ _ _ _ _ us hl => match us, hl with | [_, _, _], _ => rfl
  have F1 := fun_mk (st := st_is_entry) l1 c1 k1
  have b1 := F1.binds (ps := ["thing"]) fun _ _ _ _ _ _ us hl => match us, hl with | [_], _ => rfl
  have F2 := fun_mk (st := st_is_log) l2 c2 k2
  have b2 := F2.binds (ps := ["thing"]) fun _ _ _ _ _ _ us hl => match us, hl with | [_], _ => rfl
  have F3 := fun_mk (st := st_law_cell) l3 c3 k3
  have b3 := F3.binds (ps := ["script", "k"]) fun _ _ _ _ _ _ us hl => match us, hl with | [_, _], _ => rfl
  have F4 := fun_mk (st := st_law_drawn) l4 c4 k4
  have b4 := F4.binds (ps := ["script", "k", "many"]) fun _ _ _ _ _ _ us hl => match us, hl with | [_, _, _], _ => rfl
  have F5 := fun_mk (st := st_law_log) l5 c5 k5
  have b5 := F5.binds (ps := ["script", "at"]) fun _ _ _ _ _ _ us hl => match us, hl with | [_, _], _ => rfl
  have F6 := fun_mk (st := st_law_is) l6 c6 k6
  have b6 := F6.binds (ps := ["thing", "many"]) fun _ _ _ _ _ _ us hl => match us, hl with | [_, _], _ => rfl
  have F7 := fun_mk (st := st_law_is_entry) l7 c7 k7
  have b7 := F7.binds (ps := ["row"]) fun _ _ _ _ _ _ us hl => match us, hl with | [_], _ => rfl
  have F8 := fun_mk (st := st_law) l8 c8 k8
  have b8 := F8.binds (ps := ["script"]) fun _ _ _ _ _ _ us hl => match us, hl with | [_], _ => rfl
  refine ⟨PySem.W.fnOf "law" "law" (defArgs st_law) (defBody st_law) (defScope st_law) .none kV8 dc8 pm8 an8 cd8 ct8, fun s v => .of_eq rfl, fun base _ _ => ?_⟩
  have d_is_number := ok_is_number (P := l.prog) (w := w) (base := base) (cl := clOf K) F0 b0 (PySem.W.mg_of X G a0) B C
  have d_is_entry := ok_is_entry (P := l.prog) (w := w) (base := base) (cl := clOf K) F1 b1 (PySem.W.mg_of X G a1) B C d_is_number
  have d_is_log := ok_is_log (P := l.prog) (w := w) (base := base) (cl := clOf K) F2 b2 (PySem.W.mg_of X G a2) B C d_is_entry
  have d_law_cell := ok_law_cell (P := l.prog) (w := w) (base := base) (cl := clOf K) F3 b3 (PySem.W.mg_of X G a3) B C
  have d_law_drawn := ok_law_drawn (P := l.prog) (w := w) (base := base) (cl := clOf K) F4 b4 (PySem.W.mg_of X G a4) B C d_law_cell
  have d_law_log := ok_law_log (P := l.prog) (w := w) (base := base) (cl := clOf K) F5 b5 (PySem.W.mg_of X G a5) B C d_law_drawn
  have d_law_is := ok_law_is (P := l.prog) (w := w) (base := base) (cl := clOf K) F6 b6 (PySem.W.mg_of X G a6) B C
  have d_law_is_entry := ok_law_is_entry (P := l.prog) (w := w) (base := base) (cl := clOf K) F7 b7 (PySem.W.mg_of X G a7) B C d_law_is
  exact fn_law F8 B C d_law_log d_is_log d_law_drawn d_law_is_entry
end BW
open PySem PySem.W PyProof.Rows
set_option maxRecDepth 100000 in
set_option maxHeartbeats 0 in
theorem PySem.Challenge.cw_boltwatch_k70_what_is_a_log_holds : PySem.Challenge.rw_boltwatch_k70_what_is_a_log.Holds := by
  w_on; o_law; k_head; (case hw => w_witness2)
  k_fill
  refine BW.walk_law (l := PySem.Challenge.rw_boltwatch_k70_what_is_a_log) (k := 4) (m := BW.m_law) BW.lawOk rfl rfl ⟨rfl, by decide, by decide⟩ (fun w h Y => PySem.W.kIn_of Y) ?F
  case F =>
    intro w mg fa h KX G hmg
    refine' BW.all_mk KX G hmg ?a0 ?l0 ?c0 ?k0 ?a1 ?l1 ?c1 ?k1 ?a2 ?l2 ?c2 ?k2 ?a3 ?l3 ?c3 ?k3 ?a4 ?l4 ?c4 ?k4 ?a5 ?l5 ?c5 ?k5 ?a6 ?l6 ?c6 ?k6 ?a7 ?l7 ?c7 ?k7 ?a8 ?l8 ?c8 ?k8 ?gv0 ?hv0 ?gv1 ?z_len ?z_isinstance ?z_int ?z_bool ?z_str ?z_tuple ?z_list ?z_set ?z_dict ?z_all ?z_zip ?z_enumerate ?z_range ?z_sorted ?z_min ?z_max
    (case a0 => k_is)
    (case l0 => k_is)
    (case c0 => k_is)
    (case k0 => k_is)
    (case a1 => k_is)
    (case l1 => k_is)
    (case c1 => k_is)
    (case k1 => k_is)
    (case a2 => k_is)
    (case l2 => k_is)
    (case c2 => k_is)
    (case k2 => k_is)
    (case a3 => k_is)
    (case l3 => k_is)
    (case c3 => k_is)
    (case k3 => k_is)
    (case a4 => k_is)
    (case l4 => k_is)
    (case c4 => k_is)
    (case k4 => k_is)
    (case a5 => k_is)
    (case l5 => k_is)
    (case c5 => k_is)
    (case k5 => k_is)
    (case a6 => k_is)
    (case l6 => k_is)
    (case c6 => k_is)
    (case k6 => k_is)
    (case a7 => k_is)
    (case l7 => k_is)
    (case c7 => k_is)
    (case k7 => k_is)
    (case a8 => k_is)
    (case l8 => k_is)
    (case c8 => k_is)
    (case k8 => k_is)
    (case gv0 => k_is)
    (case hv0 => k_is)
    (case gv1 => k_is)
    (case z_len => k_is)
    (case z_isinstance => k_is)
    (case z_int => k_is)
    (case z_bool => k_is)
    (case z_str => k_is)
    (case z_tuple => k_is)
    (case z_list => k_is)
    (case z_set => k_is)
    (case z_dict => k_is)
    (case z_all => k_is)
    (case z_zip => k_is)
    (case z_enumerate => k_is)
    (case z_range => k_is)
    (case z_sorted => k_is)
    (case z_min => k_is)
    (case z_max => k_is)
