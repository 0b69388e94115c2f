import PyProof.Rows.All
import HandS.ForMost
import HandS.WordsExc
import HandS.Walk
import HandS.Zip
import HandS.Wide
import HandS.IsInst
import HandS.TupAny
import HandS.TupMul
import HandS.Flow
import HandS.Lambda
import HandS.HotCalls
import HandS.ExcIs
import KE.KTupSum
import HandS.Deep
import HandS.Style
import KE.GoesEnum
import HandS.HeadHook1
import HandS.HeadHook4
import HandS.NestedK
import HandS.HeadWalk
import HandS.Gcd
import HandS.CallLocal
import HandS.Rev
import PySem.Challenge.RW_blendhouse_k90_whole_power_rows
import HandS.Head0
import HandS.Head1
import HandS.Head2
import HandS.Head3
import HandS.HeadEnd
set_option Elab.async false
set_option linter.all false
set_option maxRecDepth 100000
set_option maxHeartbeats 2000000
/-! PL: a pure layer over the hand layer. Each expression, statement and def of a text gets a plain function over data (PyData), in a state: the slots and the cup (one list of two ints, changed in place). -/
namespace PL
open PySem PySem.Spec PyProof.Rows L2 LamX

abbrev D := PyData
/-- a slot: unknown; data that nobody changes; an object that the slot alone holds and may change; the cup; a thing of which only the place is known (a def, an exception) -/
inductive Ow where
  | lst (ds : List D)
  | dT (kvs : List (List Key × D))
  | dK (kvs : List (Key × D))
inductive Sl where
  | un
  | val (d : D)
  | own (o : Ow)
  | cup
  | fn (a : Addr)
structure S where
  r : List Sl
  c : Int × Int
inductive Res (α : Type) where
  | ok (a : α) (s : S)
  | exc (n : Str) (s : S)
  | bad
def M (α : Type) : Type := S → Res α
def ret {α : Type} (a : α) : M α := fun s => .ok a s
def bad {α : Type} : M α := fun _ => .bad
def exc {α : Type} (n : Str) : M α := fun s => .exc n s
def bnd {α β : Type} (m : M α) (f : α → M β) : M β := fun s =>
  match m s with
  | .ok a s' => f a s'
  | .exc n s' => .exc n s'
  | .bad => .bad

/-- what stays the same through a def's body: the fragment, the module's names, the tables of code objects, the cup's address, the heap and its frozen part at the entry, what is held apart, what is wished of an exception -/
structure Ct where
  K : PySem.W.Frag
  mg : Str → Option Value
  T : List (Addr × Str)
  c : Addr
  H0 : Hp
  F0 : Hp
  P : List (Addr × HO)
  W : Value → Option Addr → Hp → Prop

def Sub (F F' : Hp) : Prop := ∀ a o, F a = some o → F' a = some o
theorem sub_refl (F : Hp) : Sub F F := fun _ _ h => h
theorem sub_trans {F F1 F2 : Hp} (a : Sub F F1) (b : Sub F1 F2) : Sub F F2 := fun x o h => b x o (a x o h)
theorem sub_none {F F' : Hp} (a : Sub F F') {x : Addr} (h : F' x = none) : F x = none := by
  cases q : F x with
  | none => rfl
  | some o => rw [a x o q] at h; cases h
theorem sub_upd {F : Hp} {a : Addr} {o : HO} (h : F a = none) : Sub F (upd F a o) := fun b u e => by
  rw [upd_ne (ne_of_none e h)]; exact e

theorem sqL_sub {K : PySem.W.Frag} {F F' : Hp} {a : Addr} {xs : List V} (e : Sub F F') (h : SqL K F a xs) : SqL K F' a xs := by
  rcases h with (h | ⟨o, h⟩) | h
  · exact .inl (.inl (e _ _ h))
  · exact .inl (.inr ⟨o, e _ _ h⟩)
  · exact .inr h
theorem sqT_sub {K : PySem.W.Frag} {F F' : Hp} {a : Addr} {xs : List V} (e : Sub F F') (h : SqT K F a xs) : SqT K F' a xs := by
  rcases h with (h | ⟨o, h⟩) | h
  · exact .inl (.inl (e _ _ h))
  · exact .inl (.inr ⟨o, e _ _ h⟩)
  · exact .inr h
mutual
/-- the value is that data, by the frozen part F -/
inductive Rp (K : PySem.W.Frag) (F : Hp) : V → D → Prop
  | non : Rp K F .non .none
  | bl (b : Bool) : Rp K F (.bl b) (.bool b)
  | int (i : Int) : Rp K F (.int i) (.int i)
  | str (x : Str) : Rp K F (.str x) (.str x)
  | lst {a : Addr} {xs : List V} {ds : List D} : F a = some (.lst xs) → RpAll K F xs ds → Rp K F (.ref a) (.list ds)
  | tup {a : Addr} {xs : List V} {ds : List D} : F a = some (.tup xs) → RpAll K F xs ds → Rp K F (.ref a) (.tuple ds)
inductive RpAll (K : PySem.W.Frag) (F : Hp) : List V → List D → Prop
  | nil : RpAll K F [] []
  | cons {v : V} {vs : List V} {d : D} {ds : List D} : Rp K F v d → RpAll K F vs ds → RpAll K F (v :: vs) (d :: ds)
end
mutual
theorem rp_dp {K : PySem.W.Frag} {F : Hp} : ∀ {d : D} {v : V}, Rp K F v d → Dp K F v d
  | _, _, .non => .non
  | _, _, .bl b => .bl b
  | _, _, .int i => .int i
  | _, _, .str x => .str x
  | _, _, .lst h r => .lst (SqL.of h) (rps_dp r)
  | _, _, .tup h r => .tup (SqT.of h) (rps_dp r)
theorem rps_dp {K : PySem.W.Frag} {F : Hp} : ∀ {ds : List D} {vs : List V}, RpAll K F vs ds → DpAll K F vs ds
  | _, _, .nil => .nil
  | _, _, .cons h r => .cons (rp_dp h) (rps_dp r)
end
theorem dp0_sub {K : PySem.W.Frag} {F F' : Hp} (e : Sub F F') {d : D} {v : V} (h : Dp K F v d) : Dp K F' v d := h.rec (motive_1 := fun v d _ => Dp K F' v d) (motive_2 := fun vs ds _ => DpAll K F' vs ds)
  .non .bl .int .str (fun h _ r => .lst (sqL_sub e h) r) (fun h _ r => .tup (sqT_sub e h) r) .nil (fun _ _ h r => .cons h r)
mutual
theorem dp_sub {K : PySem.W.Frag} {F F' : Hp} (e : Sub F F') : ∀ {d : D} {v : V}, Rp K F v d → Rp K F' v d
  | _, _, .non => .non
  | _, _, .bl b => .bl b
  | _, _, .int i => .int i
  | _, _, .str x => .str x
  | _, _, .lst h r => .lst (e _ _ h) (dps_sub e r)
  | _, _, .tup h r => .tup (e _ _ h) (dps_sub e r)
theorem dps_sub {K : PySem.W.Frag} {F F' : Hp} (e : Sub F F') : ∀ {ds : List D} {vs : List V}, RpAll K F vs ds → RpAll K F' vs ds
  | _, _, .nil => .nil
  | _, _, .cons h r => .cons (dp_sub e h) (dps_sub e r)
end
theorem dps_len {K : PySem.W.Frag} {F : Hp} : ∀ {ds : List D} {vs : List V}, RpAll K F vs ds → vs.length = ds.length
  | _, _, .nil => rfl
  | _, _, .cons _ r => by simp [dps_len r]
theorem dps_get {K : PySem.W.Frag} {F : Hp} : ∀ {ds : List D} {vs : List V} {i : Nat} {d : D}, RpAll K F vs ds → ds[i]? = some d → ∃ v, vs[i]? = some v ∧ Rp K F v d
  | _, _, _, _, .nil, h => by simp at h
  | _, _, 0, _, .cons h r, e => by simp at e; subst e; exact ⟨_, rfl, h⟩
  | _, _, i + 1, d, .cons h r, e => by
    obtain ⟨v, h1, h2⟩ := dps_get (i := i) r (by simpa using e)
    exact ⟨v, by simpa using h1, h2⟩
theorem dps_get' {K : PySem.W.Frag} {F : Hp} : ∀ {ds : List D} {vs : List V} {i : Nat} {v : V}, RpAll K F vs ds → vs[i]? = some v → ∃ d, ds[i]? = some d ∧ Rp K F v d
  | _, _, _, _, .nil, h => by simp at h
  | _, _, 0, _, .cons h r, e => by simp at e; subst e; exact ⟨_, rfl, h⟩
  | _, _, i + 1, d, .cons h r, e => by
    obtain ⟨v, h1, h2⟩ := dps_get' (i := i) r (by simpa using e)
    exact ⟨v, by simpa using h1, h2⟩
theorem dps_app {K : PySem.W.Frag} {F : Hp} : ∀ {ds es : List D} {vs ws : List V}, RpAll K F vs ds → RpAll K F ws es → RpAll K F (vs ++ ws) (ds ++ es)
  | _, _, _, _, .nil, s => s
  | _, _, _, _, .cons h r, s => .cons h (dps_app r s)
theorem dps_set {K : PySem.W.Frag} {F : Hp} {v : V} {d : D} (q : Rp K F v d) : ∀ {ds : List D} {vs : List V} (i : Nat), RpAll K F vs ds → RpAll K F (vs.set i v) (ds.set i d)
  | _, _, _, .nil => .nil
  | _, _, 0, .cons h r => .cons q r
  | _, _, i + 1, .cons h r => .cons h (dps_set q i r)
theorem dps_take {K : PySem.W.Frag} {F : Hp} : ∀ {ds : List D} {vs : List V} (n : Nat), RpAll K F vs ds → RpAll K F (vs.take n) (ds.take n)
  | _, _, 0, _ => .nil
  | _, _, _ + 1, .nil => .nil
  | _, _, n + 1, .cons h r => .cons h (dps_take n r)
theorem dps_drop {K : PySem.W.Frag} {F : Hp} : ∀ {ds : List D} {vs : List V} (n : Nat), RpAll K F vs ds → RpAll K F (vs.drop n) (ds.drop n)
  | _, _, 0, h => h
  | _, _, _ + 1, .nil => .nil
  | _, _, n + 1, .cons h r => dps_drop n r

def cupO (c : Int × Int) : HO := .lst [.int c.1, .int c.2]
def NoTbl (o : HO) : Prop := ∀ ps, o ≠ .tbl ps

/-- how the heap and its frozen part have grown since the entry -/
structure Gr (C : Ct) (H F : Hp) (k : Int × Int) : Prop where
  keep : ∀ a o, C.H0 a = some o → a ≠ C.c → NoTbl o → H a = some o
  there : ∀ a, H a = none → C.H0 a = none
  tabs : Tabs C.T H
  cup : H C.c = some (cupO k)
  fc : F C.c = none
  fsub : Sub F H
  f0 : Sub C.F0 F
  fnew : ∀ a, C.F0 a = none → C.H0 a ≠ none → F a = none
  ftab : ∀ a o, F a = some o → NoTbl o
  pin : ∀ p ∈ C.P, H p.1 = some p.2 ∧ F p.1 = none ∧ p.1 ≠ C.c ∧ NoTbl p.2 ∧ C.H0 p.1 = none

/-- what an own object holds -/
def OwR (K : PySem.W.Frag) (F : Hp) : HO → Ow → Prop
  | .lst vs, .lst ds => RpAll K F vs ds
  | .dT vs, .dT kvs => Paired (fun (p : List Key × V) (q : List Key × D) => p.1 = q.1 ∧ Rp K F p.2 q.2) vs kvs
  | .dK vs, .dK kvs => Paired (fun (p : Key × V) (q : Key × D) => p.1 = q.1 ∧ Rp K F p.2 q.2) vs kvs
  | _, _ => False
def IsMu (o : HO) : Prop := (∃ vs, o = .lst vs) ∨ (∃ vs, o = .dT vs) ∨ ∃ vs, o = .dK vs
theorem IsMu.nt {o : HO} (h : IsMu o) : NoTbl o := by
  rcases h with ⟨_, rfl⟩ | ⟨_, rfl⟩ | ⟨_, rfl⟩ <;> exact fun ps z => nomatch z
theorem IsMu.nc {o : HO} (h : IsMu o) {c : Addr} {q : Str} : o ≠ CodeO c q := by
  rcases h with ⟨_, rfl⟩ | ⟨_, rfl⟩ | ⟨_, rfl⟩ <;> exact fun z => nomatch z
theorem owR_mu {K : PySem.W.Frag} {F : Hp} {ho : HO} {o : Ow} (h : OwR K F ho o) : IsMu ho := by
  cases ho <;> cases o <;> first | exact h.elim | exact .inl ⟨_, rfl⟩ | exact .inr (.inl ⟨_, rfl⟩) | exact .inr (.inr ⟨_, rfl⟩)
theorem owR_sub {K : PySem.W.Frag} {F F' : Hp} (e : Sub F F') {ho : HO} {o : Ow} (h : OwR K F ho o) : OwR K F' ho o := by
  cases ho <;> cases o <;> first | exact h.elim | exact dps_sub e h | exact Paired.mapP h fun p q z => ⟨z.1, dp_sub e z.2⟩
theorem owR_lst {K : PySem.W.Frag} {F : Hp} {ho : HO} {ds : List D} (h : OwR K F ho (.lst ds)) : ∃ vs, ho = .lst vs ∧ RpAll K F vs ds := by
  cases ho <;> first | exact h.elim | exact ⟨_, rfl, h⟩
theorem owR_dT {K : PySem.W.Frag} {F : Hp} {ho : HO} {ds : List (List Key × D)} (h : OwR K F ho (.dT ds)) : ∃ vs, ho = .dT vs ∧ Paired (fun (p : List Key × V) (q : List Key × D) => p.1 = q.1 ∧ Rp K F p.2 q.2) vs ds := by
  cases ho <;> first | exact h.elim | exact ⟨_, rfl, h⟩
def SlOk (C : Ct) (F H : Hp) (v : Option V) : Sl → Prop
  | .un => True
  | .val d => ∃ u, v = some u ∧ Rp C.K F u d
  | .own o => ∃ a ho, v = some (.ref a) ∧ a ≠ C.c ∧ F a = none ∧ C.H0 a = none ∧ H a = some ho ∧ OwR C.K F ho o ∧ ∀ p ∈ C.P, p.1 ≠ a
  | .cup => v = some (.ref C.c)
  | .fn a => v = some (.ref a)
def isOwn : Sl → Bool
  | .own _ => true
  | _ => false

structure Rel (C : Ct) (σ : L2.St) (H : Hp) (s : S) (F : Hp) : Prop where
  gr : Gr C H F s.c
  len : s.r.length = σ.length
  sl : ∀ i k, s.r[i]? = some k → SlOk C F H (σ.getD i none) k
  dis : ∀ i j a k l, s.r[i]? = some k → s.r[j]? = some l → isOwn k = true → isOwn l = true → σ.getD i none = some (.ref a) → σ.getD j none = some (.ref a) → i = j

/-- what is wanted behind an expression, of what its function gives; rep: how the outcome b bears the function's a -/
def PostG {α β : Type} (C : Ct) (σ : L2.St) (rep : Hp → β → α → Prop) (F : Hp) (r : Res α) (Q : β → Hp → Prop) : Prop :=
  match r with
  | .ok d s' => ∀ v H' F', Rel C σ H' s' F' → Sub F F' → rep F' v d → Q v H'
  | .exc n s' => ∀ H' F' A, Gr C H' F' s'.c → C.mg n = some (.ref A) → C.W (.ref A) none H'
  | .bad => False
def TDG {α β : Type} (C : Ct) (rep : Hp → β → α → Prop) (m : M α) : L2.St → Hp → (β → Hp → Prop) → Prop := fun σ H Q => ∃ s F, Rel C σ H s F ∧ PostG C σ rep F (m s) Q
abbrev Post (C : Ct) (σ : L2.St) (F : Hp) (r : Res D) (Q : VK) : Prop := PostG C σ (Rp C.K) F r Q
abbrev TD (C : Ct) (m : M D) : TE := TDG C (Rp C.K) m
/-- the expression e is the function m, whatever is held apart -/
def DE (X : Cx) (C : Ct) (e : Expr) (m : M D) : Prop := ∀ P G, PE X e (TD { C with P := P, F0 := G } m)
/-- .. a list of expressions -/
abbrev TDA (C : Ct) (m : M (List D)) : TA := TDG C (RpAll C.K) m
def DA (X : Cx) (C : Ct) (es : List Expr) (m : M (List D)) : Prop := ∀ P G, PA X es (TDA { C with P := P, F0 := G } m)
/-- .. a test, a part of a slice -/
def same {α : Type} : Hp → α → α → Prop := fun _ b a => b = a
abbrev TDT (C : Ct) (m : M Bool) : TT := TDG C same m
def DT (X : Cx) (C : Ct) (e : Expr) (m : M Bool) : Prop := ∀ P G, PT X e (TDT { C with P := P, F0 := G } m)
def DW (X : Cx) (C : Ct) (e : Expr) (m : M Bool) : Prop := ∀ P G, PW X e (TDT { C with P := P, F0 := G } m)
abbrev TDO (C : Ct) (m : M (Option Int)) : TO := TDG C same m
def DO (X : Cx) (C : Ct) (e : Option Expr) (m : M (Option Int)) : Prop := ∀ P G, PO X e (TDO { C with P := P, F0 := G } m)

theorem PE.imp {X : Cx} {e : Expr} {t t' : TE} (h : PE X e t) (i : ∀ σ H Q, t' σ H Q → t σ H Q) : PE X e t' := ⟨fun pins s σ H Q I q => h.run pins s σ H Q I (i σ H Q q)⟩
theorem PT.imp {X : Cx} {e : Expr} {t t' : TT} (h : PT X e t) (i : ∀ σ H Q, t' σ H Q → t σ H Q) : PT X e t' := ⟨fun pins s σ H Q I q => h.run pins s σ H Q I (i σ H Q q)⟩
theorem PW.imp {X : Cx} {e : Expr} {t t' : TT} (h : PW X e t) (i : ∀ σ H Q, t' σ H Q → t σ H Q) : PW X e t' := ⟨fun w pins s σ H Q I q => h.run w pins s σ H Q I (i σ H Q q)⟩
theorem PA.imp {X : Cx} {es : List Expr} {t t' : TA} (h : PA X es t) (i : ∀ σ H Q, t' σ H Q → t σ H Q) : PA X es t' := ⟨fun pos pins s σ H Q I q => h.run pos pins s σ H Q I (i σ H Q q)⟩
theorem PS.imp {X : Cx} {st : Stmt} {t t' : TS} (h : PS X st t) (i : ∀ D σ H, t' D σ H → t D σ H) : PS X st t' := ⟨fun pins s σ H D I q => h.run pins s σ H D I (i D σ H q)⟩
theorem PSs.imp {X : Cx} {st : List Stmt} {t t' : TS} (h : PSs X st t) (i : ∀ D σ H, t' D σ H → t D σ H) : PSs X st t' := ⟨fun pins s σ H D I q => h.run pins s σ H D I (i D σ H q)⟩

section
variable {X : Cx} {C : Ct} {σ : L2.St} {H : Hp} {s : S} {F : Hp}
variable {α β γ δ : Type} {rep : Hp → β → α → Prop} {rep2 : Hp → δ → γ → Prop}
theorem PostG.mono {F1 : Hp} {r : Res α} {Q : β → Hp → Prop} (h : PostG C σ rep F r Q) (e : Sub F F1) : PostG C σ rep F1 r Q := by
  cases r with
  | ok d s' => exact fun v H' F' a b c => h v H' F' a (sub_trans e b) c
  | exc n s' => exact h
  | bad => exact h
theorem PostG.imp {r : Res α} {Q Q' : β → Hp → Prop} (h : PostG C σ rep F r Q) (i : ∀ v H', Q v H' → Q' v H') : PostG C σ rep F r Q' := by
  cases r with
  | ok d s' => exact fun v H' F' a b c => i v H' (h v H' F' a b c)
  | exc n s' => exact h
  | bad => exact h
theorem td_imp {m : M α} {Q Q' : β → Hp → Prop} (h : TDG C rep m σ H Q) (i : ∀ v H', Q v H' → Q' v H') : TDG C rep m σ H Q' := by
  obtain ⟨s, F, R, h⟩ := h
  exact ⟨s, F, R, h.imp i⟩
/-- first m, then k -/
theorem td_bnd {m : M α} {k : α → M γ} {Q : δ → Hp → Prop} (R : Rel C σ H s F) (h : PostG C σ rep2 F (bnd m k s) Q) :
    TDG C rep m σ H fun v H' => ∃ d s' F', Rel C σ H' s' F' ∧ Sub F F' ∧ rep F' v d ∧ PostG C σ rep2 F' (k d s') Q := by
  refine ⟨s, F, R, ?_⟩
  unfold bnd at h
  cases q : m s with
  | ok d s' =>
    rw [q] at h
    exact fun v H' F' a b c => ⟨d, s', F', a, b, c, h.mono b⟩
  | exc n s' => rw [q] at h; exact h
  | bad => rw [q] at h; exact h
/-- .. by what is wanted of the whole -/
theorem tg_bnd {m : M α} {k : α → M γ} {Q : δ → Hp → Prop} (h : TDG C rep2 (bnd m k) σ H Q) :
    TDG C rep m σ H fun v H' => ∃ d s' F', Rel C σ H' s' F' ∧ rep F' v d ∧ PostG C σ rep2 F' (k d s') Q := by
  obtain ⟨s, F, R, h⟩ := h
  exact td_imp (td_bnd R h) fun v H' ⟨d, s', F', a, b, c, e⟩ => ⟨d, s', F', a, c, e⟩
end
end PL
set_option maxHeartbeats 2000000
namespace PL
open PySem PySem.Spec PyProof.Rows L2 LamX
/-! ### the heap grows -/
section
variable {C : Ct} {σ : L2.St} {H : Hp} {s : S} {F : Hp} {p : Addr} {o : HO}
theorem upd_ext (h : H p = none) : ∀ b u, H b = some u → upd H p o b = some u := fun b u e => by rw [upd_ne (ne_of_none e h)]; exact e
theorem Gr.ne_c {k} (g : Gr C H F k) (h : H p = none) : p ≠ C.c := fun e => by rw [e, g.cup] at h; cases h
theorem Gr.fnone {k} (g : Gr C H F k) (h : H p = none) : F p = none := sub_none g.fsub h
theorem Gr.ref0 {k} (g : Gr C H F k) (h : H p = none) : C.H0 p = none := g.there p h
theorem gr_upd {k} (g : Gr C H F k) (h : H p = none) (nt : NoTbl o) : Gr C (upd H p o) F k where
  keep := fun a u e1 e2 e3 => upd_ext h a u (g.keep a u e1 e2 e3)
  there := fun a e => g.there a (by
    cases q : H a with
    | none => rfl
    | some u => rw [upd_ext h a u q] at e; cases e)
  tabs := g.tabs.ext (upd_ext h)
  cup := upd_ext h _ _ g.cup
  fc := g.fc
  fsub := fun a u e => upd_ext h a u (g.fsub a u e)
  f0 := g.f0
  fnew := g.fnew
  ftab := g.ftab
  pin := fun q hq => ⟨upd_ext h _ _ (g.pin q hq).1, (g.pin q hq).2⟩
theorem gr_frz {k} (g : Gr C H F k) (hF : F p = none) (h : H p = some o) (h0 : C.H0 p = none) (hc : p ≠ C.c) (nt : NoTbl o) (hp : ∀ q ∈ C.P, q.1 ≠ p) : Gr C H (upd F p o) k where
  keep := g.keep
  there := g.there
  tabs := g.tabs
  cup := g.cup
  fc := by rw [upd_ne hc.symm]; exact g.fc
  fsub := fun a u e => by
    by_cases ha : a = p
    · subst ha; rw [upd_same] at e; cases e; exact h
    · rw [upd_ne ha] at e; exact g.fsub a u e
  f0 := sub_trans g.f0 (sub_upd hF)
  fnew := fun a e1 e2 => by
    by_cases ha : a = p
    · subst ha; exact absurd h0 e2
    · rw [upd_ne ha]; exact g.fnew a e1 e2
  ftab := fun a u e => by
    by_cases ha : a = p
    · subst ha; rw [upd_same] at e; cases e; exact nt
    · rw [upd_ne ha] at e; exact g.ftab a u e
  pin := fun q hq => ⟨(g.pin q hq).1, by rw [upd_ne (hp q hq)]; exact (g.pin q hq).2.1, (g.pin q hq).2.2⟩
theorem slOk_upd {v : Option V} {k : Sl} (h : H p = none) (x : SlOk C F H v k) : SlOk C F (upd H p o) v k := by
  cases k with
  | own ds =>
    obtain ⟨a, vs, e1, e2, e3, e4, e5, e6⟩ := x
    exact ⟨a, vs, e1, e2, e3, e4, upd_ext h _ _ e5, e6⟩
  | un => exact x
  | val d => exact x
  | cup => exact x
  | fn _ => exact x
theorem slOk_frz {v : Option V} {k : Sl} (hF : F p = none) (hv : isOwn k = true → v ≠ some (.ref p)) (x : SlOk C F H v k) : SlOk C (upd F p o) H v k := by
  cases k with
  | own ds =>
    obtain ⟨a, vs, e1, e2, e3, e4, e5, e6, e7⟩ := x
    refine ⟨a, vs, e1, e2, ?_, e4, e5, owR_sub (sub_upd hF) e6, e7⟩
    rw [upd_ne (fun z => hv rfl (by rw [e1, z]))]; exact e3
  | un => exact x
  | val d => obtain ⟨u, e1, e2⟩ := x; exact ⟨u, e1, dp_sub (sub_upd hF) e2⟩
  | cup => exact x
  | fn _ => exact x
/-- a new object that nobody knows -/
theorem rel_newU (R : Rel C σ H s F) (h : H p = none) (nt : NoTbl o) : Rel C σ (upd H p o) s F :=
  ⟨gr_upd R.gr h nt, R.len, fun i k e => slOk_upd h (R.sl i k e), R.dis⟩
/-- what a known slot holds is there -/
theorem own_at (R : Rel C σ H s F) {i : Nat} {k : Sl} (e : s.r[i]? = some k) (ho : isOwn k = true) {a : Addr} (hv : σ.getD i none = some (.ref a)) : H a ≠ none := by
  have x := R.sl i k e
  cases k with
  | own ds =>
    obtain ⟨b, vs, e1, _, _, _, e5, _⟩ := x
    rw [hv] at e1
    cases e1
    rw [e5]
    exact fun z => nomatch z
  | un => cases ho
  | val d => cases ho
  | cup => cases ho
  | fn _ => cases ho
/-- a new object, frozen at once -/
theorem rel_new (R : Rel C σ H s F) (h : H p = none) (nt : NoTbl o) : Rel C σ (upd H p o) s (upd F p o) := by
  have R' := rel_newU (o := o) R h nt
  have hF := R.gr.fnone h
  refine ⟨gr_frz R'.gr hF upd_same (R.gr.ref0 h) (R.gr.ne_c h) nt (fun q hq z => ?_), R.len, fun i k e => slOk_frz hF (fun ho z => own_at R e ho z h) (R'.sl i k e), R.dis⟩
  have := (R.gr.pin q hq).1
  rw [z, h] at this
  cases this
/-- a slot takes data -/
theorem rel_set (R : Rel C σ H s F) {i : Nat} {v : V} {d : D} (h : Rp C.K F v d) : Rel C (σ.set i (some v)) H { s with r := s.r.set i (.val d) } F := by
  refine ⟨R.gr, by simp [R.len], fun j k e => ?_, fun j l a k k' e1 e2 o1 o2 h1 h2 => ?_⟩
  · by_cases hj : j = i
    · subst hj
      have hl : j < s.r.length := by
        have := (List.getElem?_eq_some_iff.mp e).1
        simpa using this
      rw [List.getElem?_set_self hl] at e
      cases e
      refine ⟨v, ?_, h⟩
      rw [List.getD_eq_getElem?_getD, List.getElem?_set_self (by rw [← R.len]; exact hl)]; rfl
    · rw [List.getElem?_set_ne (Ne.symm hj)] at e
      have x := R.sl j k e
      rw [List.getD_eq_getElem?_getD] at x ⊢
      rw [List.getElem?_set_ne (Ne.symm hj)]
      exact x
  · have key : ∀ {m : Nat} {k : Sl}, (s.r.set i (.val d))[m]? = some k → isOwn k = true → m ≠ i := fun {m k} e o z => by
      subst z
      have hl : m < s.r.length := by
        have := (List.getElem?_eq_some_iff.mp e).1
        simpa using this
      rw [List.getElem?_set_self hl] at e
      cases e
      cases o
    have n1 := key e1 o1
    have n2 := key e2 o2
    rw [List.getElem?_set_ne (Ne.symm n1)] at e1
    rw [List.getElem?_set_ne (Ne.symm n2)] at e2
    rw [List.getD_eq_getElem?_getD, List.getElem?_set_ne (Ne.symm n1), ← List.getD_eq_getElem?_getD] at h1
    rw [List.getD_eq_getElem?_getD, List.getElem?_set_ne (Ne.symm n2), ← List.getD_eq_getElem?_getD] at h2
    exact R.dis j l a k k' e1 e2 o1 o2 h1 h2
/-- a list that a slot holds is frozen -/
theorem rel_freeze (R : Rel C σ H s F) {i : Nat} {ds : List D} (e : s.r[i]? = some (.own (.lst ds))) :
    ∃ a F', σ.getD i none = some (.ref a) ∧ Sub F F' ∧ Rp C.K F' (.ref a) (.list ds) ∧ Rel C σ H { s with r := s.r.set i (.val (.list ds)) } F' := by
  obtain ⟨a, ho, e1, e2, e3, e4, e5, e6, e7⟩ := R.sl i _ e
  obtain ⟨vs, rfl, e6⟩ := owR_lst e6
  have dp : Rp C.K (upd F a (.lst vs)) (.ref a) (.list ds) := .lst upd_same (dps_sub (sub_upd e3) e6)
  refine ⟨a, upd F a (.lst vs), e1, sub_upd e3, dp, gr_frz R.gr e3 e5 e4 e2 (fun ps z => nomatch z) e7, by simp [R.len], fun j k ej => ?_, fun j l b k k' h1 h2 o1 o2 h3 h4 => ?_⟩
  · by_cases hj : j = i
    · subst hj
      have hl : j < s.r.length := (List.getElem?_eq_some_iff.mp e).1
      rw [List.getElem?_set_self hl] at ej
      cases ej
      exact ⟨_, e1, dp⟩
    · rw [List.getElem?_set_ne (Ne.symm hj)] at ej
      exact slOk_frz e3 (fun ho z => hj (R.dis j i a k _ ej e ho rfl z e1)) (R.sl j k ej)
  · have key : ∀ {m : Nat} {k : Sl}, (s.r.set i (.val (.list ds)))[m]? = some k → isOwn k = true → m ≠ i := fun {m k} e o z => by
      subst z
      have hl : m < s.r.length := by
        have := (List.getElem?_eq_some_iff.mp e).1
        simpa using this
      rw [List.getElem?_set_self hl] at e
      cases e
      cases o
    have n1 := key h1 o1
    have n2 := key h2 o2
    rw [List.getElem?_set_ne (Ne.symm n1)] at h1
    rw [List.getElem?_set_ne (Ne.symm n2)] at h2
    exact R.dis j l b k k' h1 h2 o1 o2 h3 h4
end

/-! ### expressions -/
def lim : Nat := 1000000
theorem lim_line {n : Nat} (h : n ≤ lim) : n ≤ sizeLine := Nat.le_trans h (by rw [sizeLine_eq]; decide)
theorem lim_line' {n : Nat} (h : n ≤ lim) : n < sizeLine := Nat.lt_of_le_of_lt h (by rw [sizeLine_eq]; decide)
/-- what is wanted of the value r -/
def Wn (C : Ct) (σ : L2.St) (s : S) (F : Hp) (r : D) (Q : VK) : Prop := ∀ v H' F', Rel C σ H' s F' → Sub F F' → Rp C.K F' v r → Q v H'
def opt (r : Option D) : M D := fun s => match r with
  | some d => .ok d s
  | none => .bad
theorem post_opt {C : Ct} {σ : L2.St} {F : Hp} {r : Option D} {s : S} {Q : VK} (h : Post C σ F (opt r s) Q) : ∃ d, r = some d ∧ Wn C σ s F d Q := by
  unfold opt at h
  cases r with
  | some d => exact ⟨d, rfl, h⟩
  | none => exact h.elim
section
variable {X : Cx} {C : Ct}
/-- the i-th slot -/
def eVar (i : Nat) : M D := fun s => match s.r[i]? with
  | some (.val d) => .ok d s
  | some (.own (.lst ds)) => .ok (.list ds) { s with r := s.r.set i (.val (.list ds)) }
  | _ => .bad
theorem getD_some {σ : L2.St} {i : Nat} {v : V} (h : σ.getD i none = some v) : σ[i]? = some (some v) := by
  rw [List.getD_eq_getElem?_getD] at h
  cases q : σ[i]? with
  | none => rw [q] at h; cases h
  | some u => rw [q] at h; exact congrArg some h
theorem de_var {i : Nat} {x : Str} {pos : Pos} (hN : X.N[i]? = some x) (hv : Vis X.env.scope x) (hd : (x == ("__debug__" : Str)) = false := by decide) (hcd : (x == ("__classdict__" : Str)) = false := by decide) : DE X C (.Name x pos) (eVar i) := fun P G => by
  refine (PE.imp (pe_var hN hv hd hcd) fun σ H Q h => ?_)
  obtain ⟨s, F, R, h⟩ := h
  unfold eVar at h
  cases q : s.r[i]? with
  | none => rw [q] at h; exact h.elim
  | some k =>
    rw [q] at h
    cases k with
    | un => exact h.elim
    | cup => exact h.elim
    | fn _ => exact h.elim
    | val d =>
      obtain ⟨u, e1, e2⟩ := R.sl i _ q
      exact ⟨u, getD_some e1, h u H F R (sub_refl F) e2⟩
    | own o =>
      cases o with
      | lst ds =>
        obtain ⟨a, F', e1, e2, e3, e4⟩ := rel_freeze R q
        exact ⟨_, getD_some e1, h _ H F' e4 e2 e3⟩
      | dT kvs => exact h.elim
      | dK kvs => exact h.elim
def eC (d : D) : M D := ret d
theorem de_tC {e : Expr} {v : V} {d : D} (h : PE X e (tC v)) (hd : ∀ F, Rp C.K F v d) : DE X C e (eC d) := fun P G =>
  PE.imp h fun σ H Q ⟨s, F, R, h⟩ => h v H F R (sub_refl F) (hd F)
theorem de_int {i j pos} : DE X C (.Constant (.int i) j pos) (eC (.int i)) := de_tC pe_int fun _ => .int _
theorem de_bl {b j pos} : DE X C (.Constant (.bool b) j pos) (eC (.bool b)) := de_tC pe_bl fun _ => .bl _
theorem de_non {j pos} : DE X C (.Constant .none j pos) (eC .none) := de_tC pe_non fun _ => .non
theorem de_str {x j pos} : DE X C (.Constant (.str x) j pos) (eC (.str x)) := de_tC pe_str fun _ => .str _
theorem de_gint {x : Str} {i : Int} {t : Tok} {pos : Pos} (hg : Gl X x) (hm : X.mg x = some (.int i t)) (hd : (x == ("__debug__" : Str)) = false := by decide) : DE X C (.Name x pos) (eC (.int i)) :=
  de_tC (pe_glob (v := .int i) hg hm ⟨t, rfl⟩ hd) fun _ => .int _

/-- two values, one step -/
def e2 (f : D → D → Option D) (ma mb : M D) : M D := bnd ma fun x => bnd mb fun y => opt (f x y)
def R2ok (C : Ct) (f : D → D → Option D) : R2 := fun x y H Q => ∃ σ s F d e r, Rel C σ H s F ∧ Rp C.K F x d ∧ Rp C.K F y e ∧ f d e = some r ∧ Wn C σ s F r Q
def e1 (f : D → Option D) (ma : M D) : M D := bnd ma fun x => opt (f x)
def R1ok (C : Ct) (f : D → Option D) : V → Hp → VK → Prop := fun x H Q => ∃ σ s F d r, Rel C σ H s F ∧ Rp C.K F x d ∧ f d = some r ∧ Wn C σ s F r Q
theorem td_op {f : D → D → Option D} {ma mb : M D} {σ : L2.St} {H : Hp} {Q : VK} (h : TD C (e2 f ma mb) σ H Q) : tOp (R2ok C f) (TD C ma) (TD C mb) σ H Q := by
  obtain ⟨s, F, R, h⟩ := h
  refine td_imp (td_bnd R h) fun v H2 ⟨d, s2, F2, R2, e2, dp2, p2⟩ => td_imp (td_bnd R2 p2) fun w H3 ⟨e, s3, F3, R3, e3, dp3, p3⟩ => ?_
  obtain ⟨r, er, wr⟩ := post_opt p3
  exact ⟨σ, s3, F3, d, e, r, R3, dp_sub e3 dp2, dp3, er, wr⟩
theorem de_bin {f : D → D → Option D} {op : Operator} {a b : Expr} {ma mb : M D} {pos : Pos} (ho : ∀ P G, OpR X (binaryOp op) (R2ok { C with P := P, F0 := G } f)) (ha : DE X C a ma) (hb : DE X C b mb) : DE X C (.BinOp a op b pos) (e2 f ma mb) := fun P G =>
  PE.imp (pe_op (ho P G) (ha P G) (hb P G)) fun _ _ _ h => td_op h
theorem de_cmp {f : D → D → Option D} {op : CmpOp} {a b : Expr} {ma mb : M D} {pos : Pos} (ho : ∀ P G, OpR X (compareOp op) (R2ok { C with P := P, F0 := G } f)) (ha : DE X C a ma) (hb : DE X C b mb) (hm : behindInMarks op b = false) : DE X C (.Compare a [op] [b] pos) (e2 f ma mb) := fun P G =>
  PE.imp (pe_cmpR (ho P G) (ha P G) (hb P G) hm) fun _ _ _ h => td_op h
theorem td_un {f : D → Option D} {ma : M D} {σ : L2.St} {H : Hp} {Q : VK} (h : TD C (e1 f ma) σ H Q) : tUn (R1ok C f) (TD C ma) σ H Q := by
  obtain ⟨s, F, R, h⟩ := h
  refine td_imp (td_bnd R h) fun v H2 ⟨d, s2, F2, R2, e2, dp2, p2⟩ => ?_
  obtain ⟨r, er, wr⟩ := post_opt p2
  exact ⟨σ, s2, F2, d, r, R2, dp2, er, wr⟩
theorem de_un {f : D → Option D} {op : UnaryOp} {a : Expr} {ma : M D} {pos : Pos} (ho : ∀ P G, UnR X (unaryOp op) (R1ok { C with P := P, F0 := G } f)) (ha : DE X C a ma) : DE X C (.UnaryOp op a pos) (e1 f ma) := fun P G =>
  PE.imp (pe_un (ho P G) (ha P G)) fun _ _ _ h => td_un h

/-! ### operators -/
def addD : D → D → Option D
  | .int i, .int j => some (.int (i + j))
  | .tuple xs, .tuple ys => if xs.length + ys.length ≤ lim then some (.tuple (xs ++ ys)) else none
  | .list xs, .list ys => if xs.length + ys.length ≤ lim then some (.list (xs ++ ys)) else none
  | .str x, .str y => if x.length + y.length ≤ lim then some (.str (x ++ y)) else none
  | _, _ => none
theorem wn_int {σ : L2.St} {s : S} {F H : Hp} {i : Int} {Q : VK} (R : Rel C σ H s F) (w : Wn C σ s F (.int i) Q) : Q (.int i) H := w _ _ _ R (sub_refl F) (.int i)
theorem wn_bl {σ : L2.St} {s : S} {F H : Hp} {i : Bool} {Q : VK} (R : Rel C σ H s F) (w : Wn C σ s F (.bool i) Q) : Q (.bl i) H := w _ _ _ R (sub_refl F) (.bl i)
theorem wn_str {σ : L2.St} {s : S} {F H : Hp} {i : Str} {Q : VK} (R : Rel C σ H s F) (w : Wn C σ s F (.str i) Q) : Q (.str i) H := w _ _ _ R (sub_refl F) (.str i)
theorem wn_tup {σ : L2.St} {s : S} {F H : Hp} {ds : List D} {vs : List V} {Q : VK} (R : Rel C σ H s F) (w : Wn C σ s F (.tuple ds) Q) (h : RpAll C.K F vs ds) : ∀ p, H p = none → Q (.ref p) (upd H p (.tup vs)) := fun p hp =>
  w _ _ _ (rel_new R hp (fun ps z => nomatch z)) (sub_upd (R.gr.fnone hp)) (.tup upd_same (dps_sub (sub_upd (R.gr.fnone hp)) h))
theorem wn_lst {σ : L2.St} {s : S} {F H : Hp} {ds : List D} {vs : List V} {Q : VK} (R : Rel C σ H s F) (w : Wn C σ s F (.list ds) Q) (h : RpAll C.K F vs ds) : ∀ p, H p = none → Q (.ref p) (upd H p (.lst vs)) := fun p hp =>
  w _ _ _ (rel_new R hp (fun ps z => nomatch z)) (sub_upd (R.gr.fnone hp)) (.lst upd_same (dps_sub (sub_upd (R.gr.fnone hp)) h))
theorem op_addD (hK : C.K = X.K) : OpR X (binaryOp .Add) (R2ok C addD) := by
  intro pins s σ H x y v u Q I rx ry h
  obtain ⟨σ', s', F, d, e, r, R, dx, dy, er, wr⟩ := h
  cases dx <;> cases dy <;> simp only [addD] at er <;> try (cases er; done)
  · cases er
    exact op_add pins s σ H _ _ v u Q I rx ry ⟨_, _, rfl, rfl, wn_int R wr⟩
  · split at er
    · rename_i hz
      cases er
      exact op_add_str pins s σ H _ _ v u Q I rx ry ⟨_, _, rfl, rfl, lim_line hz, wn_str R wr⟩
    · cases er
  · split at er
    · rename_i a xs ds sx ax b ys es sy ay hz
      cases er
      cases rx
      cases ry
      have l1 := dps_len ax
      have l2 := dps_len ay
      exact op_cat pins s σ H (.ref a) (.ref b) _ _ Q I rfl rfl ⟨a, b, xs, ys, rfl, rfl, R.gr.fsub _ _ sx, R.gr.fsub _ _ sy, lim_line (by omega), wn_lst R wr (dps_app ax ay)⟩
    · cases er
  · split at er
    · rename_i a xs ds sx ax b ys es sy ay hz
      cases er
      have l1 := dps_len ax
      have l2 := dps_len ay
      refine op_catA pins s σ H _ _ v u Q I rx ry ⟨a, b, xs, ys, rfl, rfl, SqT.of (R.gr.fsub _ _ sx), SqT.of (R.gr.fsub _ _ sy), lim_line (by omega), fun z => ?_, fun z1 z2 => ?_, fun z1 z2 => wn_tup R wr (dps_app ax ay)⟩
      · subst z
        have : ds = [] := by cases ds with
          | nil => rfl
          | cons _ _ => simp at l1
        subst this
        exact wr _ _ _ R (sub_refl F) (.tup sy ay)
      · subst z2
        have : es = [] := by cases es with
          | nil => rfl
          | cons _ _ => simp at l2
        subst this
        rw [List.append_nil] at wr
        exact wr _ _ _ R (sub_refl F) (.tup sx ax)
    · cases er
end
end PL
set_option maxHeartbeats 2000000
namespace PL
open PySem PySem.Spec PyProof.Rows L2 LamX
section
open AutoSeq1 (wpAny_loadPart')
theorem tuple_mulW1 (l : Addr) (items : Array Value) (n : Nat) (dd : Option Addr) (sl : Array (Option Value)) (x : Int) (u : Tok) (c0 : (decide (x < -(2 ^ 63)) || decide (x ≥ 2 ^ 63)) = false) (c1 : (items.isEmpty || x == 1) = true) :
    Meets (Builtin.«tuple.__mul__» ⟨[.ref l, .int x u], []⟩) (fun _ R s => s.heap.get? l = some { cls := .type "tuple", dict := dd, data := .seq items n, slots := sl } ∧ R (.ok (.ret (Value.ref l))) { s with heap := s.heap, toks := s.toks }) :=
  .of_wp fun prog w A R s h => by
    obtain ⟨hp, g, d, tk, os⟩ := s
    obtain ⟨hl, h⟩ := h
    have f1 := AutoSeq1.idx_int
    wp_walk using wpAny_loadPart' hl
    repeat (first
      | (refine wpAny_ite_false (decide_eq_false (by rw [c0]; exact Bool.false_ne_true)) ?_; wp_walk using wpAny_loadPart' hl)
      | (refine wpAny_ite_true (decide_eq_true c1) ?_; wp_walk using wpAny_loadPart' hl))
    exact ⟨_, rfl, h⟩
theorem tuple_mulW0 (l : Addr) (items : Array Value) (n : Nat) (dd : Option Addr) (sl : Array (Option Value)) (x : Int) (u : Tok) (c0 : (decide (x < -(2 ^ 63)) || decide (x ≥ 2 ^ 63)) = false) (c1 : (items.isEmpty || x == 1) = false) (c2 : (decide (x ≤ 0) || items.isEmpty) = true) :
    Meets (Builtin.«tuple.__mul__» ⟨[.ref l, .int x u], []⟩) (fun _ R s => s.heap.get? l = some { cls := .type "tuple", dict := dd, data := .seq items n, slots := sl } ∧
      R (.ok (.ret (Value.ref s.heap.objs.size))) { s with heap := s.heap.push { cls := Value.type "tuple", data := Data.seq #[] }, toks := s.toks }) :=
  .of_wp fun prog w A R s h => by
    obtain ⟨hp, g, d, tk, os⟩ := s
    obtain ⟨hl, h⟩ := h
    have f1 := AutoSeq1.idx_int
    wp_walk using wpAny_loadPart' hl
    repeat (first
      | (refine wpAny_ite_false (decide_eq_false (by rw [c0]; exact Bool.false_ne_true)) ?_; wp_walk using wpAny_loadPart' hl)
      | (refine wpAny_ite_false (decide_eq_false (by rw [c1]; exact Bool.false_ne_true)) ?_; wp_walk using wpAny_loadPart' hl)
      | (refine wpAny_ite_true (decide_eq_true c2) ?_; wp_walk using wpAny_loadPart' hl))
    exact ⟨_, rfl, h⟩
end
section
variable {X : Cx}
def rRepA (K : PySem.W.Frag) : R2 := fun x y H Q => ∃ l k xs, x = .ref l ∧ y = .int k ∧ SqT K H l xs ∧ -(2 ^ 62) ≤ k ∧ k ≤ 1000 ∧ xs.length ≤ 1000 ∧ ((xs = [] ∨ k = 1) → Q (.ref l) H) ∧ (xs ≠ [] → k ≠ 1 → ∀ p, H p = none → Q (.ref p) (upd H p (.tup (List.replicate k.toNat xs).flatten)))
theorem op_repA : OpR X (binaryOp .Mult) (rRepA X.K) := by
  intro pins s σ H x y v u Q I rx ry h
  obtain ⟨l, k, xs, rfl, rfl, hT, h1, h2, hz, q1, q2⟩ := h
  by_cases hb : xs ≠ [] ∧ 2 ≤ k
  · exact op_repT pins s σ H _ _ v u Q I rx ry ⟨l, k, xs, rfl, rfl, hT, hb.1, hb.2, h2, hz, q2 hb.1 (by omega)⟩
  · cases rx
    obtain ⟨t, rfl⟩ := ry
    obtain ⟨its, r, ⟨⟨cls, dd, data, sl⟩, ho, hc, n, hd⟩, hs⟩ := I.tuple hT
    simp only at hc hd
    subst hc hd
    have hle : its.length = xs.length := r.length.symm
    have c0 : (decide (k < -(2 ^ 63)) || decide (k ≥ 2 ^ 63)) = false := by
      rw [decide_eq_false (by omega), decide_eq_false (by omega)] <;> rfl
    by_cases hw : xs = [] ∨ k = 1
    · have c1 : (its.toArray.isEmpty || k == 1) = true := by
        rcases hw with e | e
        · have : its = [] := List.eq_nil_of_length_eq_zero (by rw [hle, e]; rfl)
          rw [this]
          rfl
        · rw [e]
          exact Bool.or_true _
      exact wpAny_binaryOp_repeat_ref (T := "tuple") (U := "int") (by decide) ⟨_, ho, rfl⟩ (fun s' => typeIs_int s' k t) noFill_tuple_mul F.fills_int_mul F.slot_int_rmul repeat_tuple F.slot_int_index.lookup
        (call_meets F.slot_int_rmul (typeIs_int s k t) F.entry_int_rmul (F.args_int_rmul_2 _ _) (int_rmul_tuple k t l its.toArray n dd sl)
          ⟨ho, rfl, ⟨_, ho, rfl⟩, call_meets F.slot_tuple_mul ⟨_, ho, rfl⟩ F.entry_tuple_mul (F.args_tuple_mul_2 _ _) (tuple_mulW1 l its.toArray n dd sl k t c0 c1) ⟨ho, ⟨.ref l, H, I, rfl, q1 hw⟩⟩⟩)
    · have hx : xs ≠ [] := fun e => hw (.inl e)
      have hk : k ≠ 1 := fun e => hw (.inr e)
      have hn : its ≠ [] := fun e => hx (by
        rw [e] at hle
        exact List.eq_nil_of_length_eq_zero hle.symm)
      have hi : its.toArray.isEmpty = false := by
        cases its with
        | nil => exact absurd rfl hn
        | cons a b => rfl
      have k0 : k ≤ 0 := by
        have : ¬ 2 ≤ k := fun z => hb ⟨hx, z⟩
        omega
      have c1 : (its.toArray.isEmpty || k == 1) = false := by
        rw [hi, Bool.false_or]
        exact beq_eq_false_iff_ne.mpr hk
      have c2 : (decide (k ≤ 0) || its.toArray.isEmpty) = true := by
        rw [decide_eq_true k0]
        rfl
      refine wpAny_binaryOp_repeat_ref (T := "tuple") (U := "int") (by decide) ⟨_, ho, rfl⟩ (fun s' => typeIs_int s' k t) noFill_tuple_mul F.fills_int_mul F.slot_int_rmul repeat_tuple F.slot_int_index.lookup
        (call_meets F.slot_int_rmul (typeIs_int s k t) F.entry_int_rmul (F.args_int_rmul_2 _ _) (int_rmul_tuple k t l its.toArray n dd sl)
          ⟨ho, rfl, ⟨_, ho, rfl⟩, call_meets F.slot_tuple_mul ⟨_, ho, rfl⟩ F.entry_tuple_mul (F.args_tuple_mul_2 _ _) (tuple_mulW0 l its.toArray n dd sl k t c0 c1 c2) ⟨ho, ?_⟩⟩)
      have e0 : (List.replicate k.toNat xs).flatten = [] := by
        rw [show k.toNat = 0 by omega]
        rfl
      have q3 := q2 hx hk
      rw [e0] at q3
      refine ⟨.ref s.heap.objs.size, _, I.laid (t' := s.toks) (o := .tup []) (fun b ob q => Heap.get?_push_of_some _ q) (Nat.le_refl _) ?_, rfl, q3 _ (I.hok.fresh (Nat.le_refl _))⟩
      exact ⟨Nat.zero_le _, [], .nil, IsTup.new _ _⟩
end
section
variable {X : Cx} {C : Ct}
def subD : D → D → Option D
  | .int i, .int j => some (.int (i - j))
  | _, _ => none
theorem op_subD : OpR X (binaryOp .Sub) (R2ok C subD) := by
  intro pins s σ H x y v u Q I rx ry h
  obtain ⟨σ', s', F, d, e, r, R, dx, dy, er, wr⟩ := h
  cases dx <;> cases dy <;> simp only [subD] at er <;> try (cases er; done)
  cases er
  exact op_sub pins s σ H _ _ v u Q I rx ry ⟨_, _, rfl, rfl, wn_int R wr⟩
def w64 (i : Int) : Bool := decide (-(2 ^ 64) < i ∧ i < 2 ^ 64)
def mulD : D → D → Option D
  | .int i, .int j => if (w64 i || w64 j || decide (i.natAbs.log2 + j.natAbs.log2 < 1000000)) = true then some (.int (i * j)) else none
  | .list xs, .int k => if k < 2 ^ 63 ∧ -(2 ^ 63) ≤ k ∧ xs.length * k.toNat ≤ lim then some (.list (List.replicate k.toNat xs).flatten) else none
  | .tuple xs, .int k => if -(2 ^ 62) ≤ k ∧ k ≤ 1000 ∧ xs.length ≤ 1000 then some (.tuple (List.replicate k.toNat xs).flatten) else none
  | _, _ => none
theorem dps_rep {K : PySem.W.Frag} {F : Hp} {ds : List D} {vs : List V} (h : RpAll K F vs ds) : ∀ n : Nat, RpAll K F (List.replicate n vs).flatten (List.replicate n ds).flatten
  | 0 => .nil
  | n + 1 => by
    rw [List.replicate_succ, List.replicate_succ, List.flatten_cons, List.flatten_cons]
    exact dps_app h (dps_rep h n)
theorem op_mulD (hK : C.K = X.K) : OpR X (binaryOp .Mult) (R2ok C mulD) := by
  intro pins s σ H x y v u Q I rx ry h
  obtain ⟨σ', s', F, d, e, r, R, dx, dy, er, wr⟩ := h
  cases dx <;> cases dy <;> simp only [mulD] at er <;> try (cases er; done)
  · split at er
    · rename_i hz
      cases er
      simp only [w64, Bool.or_eq_true, decide_eq_true_eq] at hz
      rcases hz with (hz | hz) | hz
      · exact op_mul pins s σ H _ _ v u Q I rx ry ⟨_, _, rfl, rfl, .inl hz, wn_int R wr⟩
      · exact op_mul pins s σ H _ _ v u Q I rx ry ⟨_, _, rfl, rfl, .inr hz, wn_int R wr⟩
      · exact op_mulW pins s σ H _ _ v u Q I rx ry ⟨_, _, rfl, rfl, hz, wn_int R wr⟩
    · cases er
  · split at er
    · rename_i a xs ds sx ax k hz
      cases er
      have l1 := dps_len ax
      exact op_rep pins s σ H _ _ v u Q I rx ry ⟨_, _, _, rfl, rfl, R.gr.fsub _ _ sx, hz.2.1, hz.1, lim_line (by rw [l1]; exact hz.2.2), wn_lst R wr (dps_rep ax _)⟩
    · cases er
  · split at er
    · rename_i a xs ds sx ax k hz
      cases er
      have l1 := dps_len ax
      refine op_repA pins s σ H _ _ v u Q I rx ry ⟨_, _, _, rfl, rfl, SqT.of (R.gr.fsub _ _ sx), hz.1, hz.2.1, by rw [l1]; exact hz.2.2, fun hw => ?_, fun _ _ => wn_tup R wr (dps_rep ax _)⟩
      have e : (List.replicate k.toNat ds).flatten = ds := by
        rcases hw with z | z
        · subst z
          cases ds with
          | nil => simp
          | cons _ _ => simp at l1
        · subst z
          simp
      rw [e] at wr
      exact wr _ _ _ R (sub_refl F) (.tup sx ax)
    · cases er
def fdivD : D → D → Option D
  | .int i, .int j => if 0 < j ∧ j.natAbs.log2 < 9000 then some (.int (i / j)) else if j < 0 ∧ j.natAbs.log2 < 9000 then some (.int (i.fdiv j)) else none
  | _, _ => none
theorem op_fdivNW : OpR X (binaryOp .FloorDiv) (rI (fun _ j => j ≠ 0 ∧ j.natAbs.log2 < 9000) fun i j => .int (i.fdiv j)) := opI fun _ _ _ _ _ _ _ hc q => floordiv_int hc.1 q (.inl (PyProof.noPylong_of_log2 hc.2))
theorem op_fdivD : OpR X (binaryOp .FloorDiv) (R2ok C fdivD) := by
  intro pins s σ H x y v u Q I rx ry h
  obtain ⟨σ', s', F, d, e, r, R, dx, dy, er, wr⟩ := h
  cases dx <;> cases dy <;> simp only [fdivD] at er <;> try (cases er; done)
  split at er
  · rename_i hz
    cases er
    exact op_fdivW pins s σ H _ _ v u Q I rx ry ⟨_, _, rfl, rfl, hz, wn_int R wr⟩
  · split at er
    · rename_i hz
      cases er
      exact op_fdivNW pins s σ H _ _ v u Q I rx ry ⟨_, _, rfl, rfl, ⟨by omega, hz.2⟩, wn_int R wr⟩
    · cases er
def modD : D → D → Option D
  | .int i, .int j => if 0 < j then some (.int (i % j)) else none
  | _, _ => none
theorem op_modD : OpR X (binaryOp .Mod) (R2ok C modD) := by
  intro pins s σ H x y v u Q I rx ry h
  obtain ⟨σ', s', F, d, e, r, R, dx, dy, er, wr⟩ := h
  cases dx <;> cases dy <;> simp only [modD] at er <;> try (cases er; done)
  split at er
  · rename_i hz
    cases er
    exact op_mod pins s σ H _ _ v u Q I rx ry ⟨_, _, rfl, rfl, hz, wn_int R wr⟩
  · cases er
def powD : D → D → Option D
  | .int i, .int j => if 0 ≤ j ∧ j ≤ 1000000 ∧ i.natAbs < 2 ^ 64 then some (.int (i ^ j.toNat)) else none
  | _, _ => none
theorem op_powD : OpR X (binaryOp .Pow) (R2ok C powD) := by
  intro pins s σ H x y v u Q I rx ry h
  obtain ⟨σ', s', F, d, e, r, R, dx, dy, er, wr⟩ := h
  cases dx <;> cases dy <;> simp only [powD] at er <;> try (cases er; done)
  split at er
  · rename_i hz
    cases er
    exact op_pow pins s σ H _ _ v u Q I rx ry ⟨_, _, rfl, rfl, hz, wn_int R wr⟩
  · cases er
def negD : D → Option D
  | .int i => some (.int (-i))
  | _ => none
theorem un_negD : UnR X (unaryOp .USub) (R1ok C negD) := by
  intro pins s σ H x v Q I rx h
  obtain ⟨σ', s', F, d, r, R, dx, er, wr⟩ := h
  cases dx <;> simp only [negD] at er <;> try (cases er; done)
  cases er
  exact un_neg pins s σ H _ v Q I rx ⟨_, rfl, wn_int R wr⟩

/-! ### comparisons -/
def ltD : D → D → Option D
  | .int i, .int j => some (.bool (decide (i < j)))
  | _, _ => none
def leD : D → D → Option D
  | .int i, .int j => some (.bool (decide (i ≤ j)))
  | _, _ => none
def gtD : D → D → Option D
  | .int i, .int j => some (.bool (decide (j < i)))
  | _, _ => none
def geD : D → D → Option D
  | .int i, .int j => some (.bool (decide (j ≤ i)))
  | _, _ => none
theorem op_ltD : OpR X (compareOp .Lt) (R2ok C ltD) := by
  intro pins s σ H x y v u Q I rx ry h
  obtain ⟨σ', s', F, d, e, r, R, dx, dy, er, wr⟩ := h
  cases dx <;> cases dy <;> simp only [ltD] at er <;> try (cases er; done)
  cases er
  exact op_lt pins s σ H _ _ v u Q I rx ry ⟨_, _, rfl, rfl, wn_bl R wr⟩
theorem op_leD : OpR X (compareOp .LtE) (R2ok C leD) := by
  intro pins s σ H x y v u Q I rx ry h
  obtain ⟨σ', s', F, d, e, r, R, dx, dy, er, wr⟩ := h
  cases dx <;> cases dy <;> simp only [leD] at er <;> try (cases er; done)
  cases er
  exact op_le pins s σ H _ _ v u Q I rx ry ⟨_, _, rfl, rfl, wn_bl R wr⟩
theorem op_gtD : OpR X (compareOp .Gt) (R2ok C gtD) := by
  intro pins s σ H x y v u Q I rx ry h
  obtain ⟨σ', s', F, d, e, r, R, dx, dy, er, wr⟩ := h
  cases dx <;> cases dy <;> simp only [gtD] at er <;> try (cases er; done)
  cases er
  exact op_gt pins s σ H _ _ v u Q I rx ry ⟨_, _, rfl, rfl, wn_bl R wr⟩
theorem op_geD : OpR X (compareOp .GtE) (R2ok C geD) := by
  intro pins s σ H x y v u Q I rx ry h
  obtain ⟨σ', s', F, d, e, r, R, dx, dy, er, wr⟩ := h
  cases dx <;> cases dy <;> simp only [geD] at er <;> try (cases er; done)
  cases er
  exact op_ge pins s σ H _ _ v u Q I rx ry ⟨_, _, rfl, rfl, wn_bl R wr⟩
def shD (d : D) : Bool := SeqAt.shaped d
def eqD (d e : D) : Option D := if (shD d && shD e) = true then some (.bool (PyData.eqv d e)) else none
def neD (d e : D) : Option D := if (shD d && shD e) = true then some (.bool (!PyData.eqv d e)) else none
theorem op_eqD' (hK : C.K = X.K) (hu : X.A.units + 64 < cLine) : OpR X (compareOp .Eq) (R2ok C eqD) := by
  intro pins s σ H x y v u Q I rx ry h
  obtain ⟨σ', s', F, d, e, r, R, dx, dy, er, wr⟩ := h
  unfold eqD at er
  split at er
  · rename_i hz
    cases er
    simp only [Bool.and_eq_true] at hz
    exact op_eqD hu pins s σ H _ _ v u Q I rx ry ⟨d, e, by rw [← hK]; exact dp0_sub R.gr.fsub (rp_dp dx), by rw [← hK]; exact dp0_sub R.gr.fsub (rp_dp dy), hz.1, hz.2, wn_bl R wr⟩
  · cases er
theorem op_neD' (hK : C.K = X.K) (hu : X.A.units + 64 < cLine) : OpR X (compareOp .NotEq) (R2ok C neD) := by
  intro pins s σ H x y v u Q I rx ry h
  obtain ⟨σ', s', F, d, e, r, R, dx, dy, er, wr⟩ := h
  unfold neD at er
  split at er
  · rename_i hz
    cases er
    simp only [Bool.and_eq_true] at hz
    exact op_neD hu pins s σ H _ _ v u Q I rx ry ⟨d, e, by rw [← hK]; exact dp0_sub R.gr.fsub (rp_dp dx), by rw [← hK]; exact dp0_sub R.gr.fsub (rp_dp dy), hz.1, hz.2, wn_bl R wr⟩
  · cases er
/-- is None -/
def isN : D → Option D
  | .none => some (.bool true)
  | _ => some (.bool false)
def notN : D → Option D
  | .none => some (.bool false)
  | _ => some (.bool true)
theorem de_isN {a : Expr} {ma : M D} {pos : Pos} {j : Nat} {p2 : Pos} (ha : DE X C a ma) : DE X C (.Compare a [.Is] [.Constant .none j p2] pos) (e1 isN ma) := fun P G => by
  refine PE.imp (pe_cmp (pc_isN (j := j) (pos' := p2) (ha P G)) (by rfl)) fun σ H Q h => ?_
  refine td_imp (td_un h) fun v H' ⟨σ', s', F, d, r, R, dx, er, wr⟩ => ?_
  cases dx <;> simp only [isN] at er <;> cases er <;> exact wn_bl R wr
theorem de_notN {a : Expr} {ma : M D} {pos : Pos} {j : Nat} {p2 : Pos} (ha : DE X C a ma) : DE X C (.Compare a [.IsNot] [.Constant .none j p2] pos) (e1 notN ma) := fun P G => by
  refine PE.imp (pe_cmp (pc_notN (j := j) (pos' := p2) (ha P G)) (by rfl)) fun σ H Q h => ?_
  refine td_imp (td_un h) fun v H' ⟨σ', s', F, d, r, R, dx, er, wr⟩ => ?_
  cases dx <;> simp only [notN] at er <;> cases er <;> exact wn_bl R wr

/-! ### subscripts -/
def idxD : D → D → Option D
  | .tuple xs, .int i => atI xs i
  | .list xs, .int i => atI xs i
  | _, _ => none
theorem dps_at {K : PySem.W.Frag} {F : Hp} {ds : List D} {vs : List V} {i : Int} {d : D} (h : RpAll K F vs ds) (e : atI ds i = some d) : ∃ v, atI vs i = some v ∧ Rp K F v d := by
  unfold atI at e ⊢
  rw [dps_len h]
  cases q : ixN ds.length i with
  | none => rw [q] at e; cases e
  | some j =>
    rw [q] at e
    exact dps_get h e
theorem ix_D (hK : C.K = X.K) : IxR X (R2ok C idxD) := by
  intro value slice pins s σ H x y v u Q I rx ry h hs
  obtain ⟨σ', s', F, d, e, r, R, dx, dy, er, wr⟩ := h
  cases dx <;> cases dy <;> simp only [idxD] at er <;> try (cases er; done)
  · rename_i a xs ds sx ax i
    obtain ⟨w, ew, dw⟩ := dps_at ax er
    exact ix_list value slice pins s σ H _ _ v u Q I rx ry ⟨_, _, _, _, rfl, rfl, SqL.of (R.gr.fsub _ _ sx), ew, wr _ _ _ R (sub_refl F) dw⟩ hs
  · rename_i a xs ds sx ax i
    obtain ⟨w, ew, dw⟩ := dps_at ax er
    exact ix_tup value slice pins s σ H _ _ v u Q I rx ry ⟨_, _, _, _, rfl, rfl, SqT.of (R.gr.fsub _ _ sx), ew, wr _ _ _ R (sub_refl F) dw⟩ hs
theorem de_idx {a b : Expr} {ma mb : M D} {pos : Pos} (hK : C.K = X.K) (ha : DE X C a ma) (hb : DE X C b mb) (hs : PlainIx b) : DE X C (.Subscript a b pos) (e2 idxD ma mb) := fun P G =>
  PE.imp (pe_ix (ix_D (C := { C with P := P, F0 := G }) hK) (ha P G) (hb P G) hs) fun _ _ _ h => td_op h
/-- slices: a part is an int or nothing -/
def cutD (xs : List D) (lo hi : Option Int) : List D := (xs.drop (HT.sIx xs.length 0 lo)).take (HT.sIx xs.length xs.length hi - HT.sIx xs.length 0 lo)
theorem dps_cut {K : PySem.W.Frag} {F : Hp} {ds : List D} {vs : List V} (h : RpAll K F vs ds) (lo hi : Option Int) : RpAll K F (cutV vs lo hi) (cutD ds lo hi) := by
  unfold cutV cutD
  rw [dps_len h]
  exact dps_take _ (dps_drop _ h)
def asI : D → M (Option Int)
  | .int i => ret (some i)
  | _ => bad
theorem do_none : DO X C none (ret none) := fun P G => ⟨fun pins s σ H Q I ⟨s', F, R, h⟩ => po_none.run pins s σ H Q I (h none H F R (sub_refl F) rfl)⟩
theorem do_some {e : Expr} {m : M D} (he : DE X C e m) : DO X C (some e) (bnd m asI) := fun P G => by
  refine ⟨fun pins s σ H Q I h => (po_some (he P G)).run pins s σ H Q I ?_⟩
  refine td_imp (tg_bnd h) fun v H' ⟨d, s', F', R, dv, p⟩ => ?_
  cases dv with
  | int i => exact ⟨i, rfl, p (some i) H' F' R (sub_refl F') rfl⟩
  | _ => exact p.elim
def sliD (lo hi : Option Int) : D → Option D
  | .tuple xs => some (.tuple (cutD xs lo hi))
  | .list xs => some (.list (cutD xs lo hi))
  | _ => none
def eSli (ma : M D) (ml mh : M (Option Int)) : M D := bnd ma fun x => bnd ml fun l => bnd mh fun u => opt (sliD l u x)
theorem de_sli {a : Expr} {lo hi : Option Expr} {ma : M D} {ml mh : M (Option Int)} {pos p2 : Pos} (hK : C.K = X.K) (ha : DE X C a ma) (hl : DO X C lo ml) (hh : DO X C hi mh) : DE X C (.Subscript a (.Slice lo hi none p2) pos) (eSli ma ml mh) := fun P G => by
  refine PE.imp (pe_slice (SlR.or sl_list sl_tupA) (ha P G) (hl P G) (hh P G)) fun σ H Q h => ?_
  obtain ⟨s, F, R, h⟩ := h
  refine td_imp (td_bnd R h) fun v H2 ⟨d, s2, F2, R2, e2, dp2, p2⟩ => td_imp (td_bnd R2 p2) fun l H3 ⟨l', s3, F3, R3, e3, el, p3⟩ => td_imp (td_bnd R3 p3) fun u H4 ⟨u', s4, F4, R4, e4, eu, p4⟩ => ?_
  obtain ⟨r, er, wr⟩ := post_opt p4
  cases el
  cases eu
  have dp4 := dp_sub (sub_trans e3 e4) dp2
  cases dp4 with
  | lst sx ax =>
    simp only [sliD] at er
    cases er
    exact .inl ⟨_, _, rfl, SqL.of (R4.gr.fsub _ _ sx), wn_lst R4 wr (dps_cut ax l u)⟩
  | @tup a xs ds sx ax =>
    simp only [sliD] at er
    cases er
    replace hK : C.K = X.K := hK
    refine .inr ⟨a, xs, rfl, by rw [← hK]; exact SqT.of (R4.gr.fsub _ _ sx), fun z => ?_, fun z => wn_tup R4 wr (dps_cut ax l u)⟩
    have e : cutD ds l u = ds := by
      unfold cutD
      rw [← dps_len ax, z.1, z.2, Nat.sub_zero, List.drop_zero, dps_len ax, List.take_length]
    rw [e] at wr
    exact wr _ _ _ R4 (sub_refl F4) (.tup sx ax)
  | _ => simp only [sliD] at er; cases er
end
end PL
set_option maxHeartbeats 2000000
namespace PL
open PySem PySem.Spec PyProof.Rows L2 LamX
section
variable {X : Cx} {C : Ct}
/-! ### lists of expressions, displays -/
def aNil : M (List D) := ret []
def aCons (m : M D) (r : M (List D)) : M (List D) := bnd m fun d => bnd r fun ds => ret (d :: ds)
theorem da_nil : DA X C [] aNil := fun P G => PA.imp pa_nil fun σ H Q ⟨s, F, R, h⟩ => h [] H F R (sub_refl F) .nil
theorem da_cons {e : Expr} {es : List Expr} {m : M D} {r : M (List D)} (he : DE X C e m) (hr : DA X C es r) (hs : starEach (e :: es) X.env = (false, eval e X.env) :: starEach es X.env := by rfl) : DA X C (e :: es) (aCons m r) := fun P G => by
  refine PA.imp (pa_cons (he P G) (hr P G) hs) fun σ H Q h => ?_
  obtain ⟨s, F, R, h⟩ := h
  refine td_imp (td_bnd R h) fun v H2 ⟨d, s2, F2, R2, e2, dp2, p2⟩ => td_imp (td_bnd R2 p2) fun vs H3 ⟨ds, s3, F3, R3, e3, dp3, p3⟩ => ?_
  exact p3 (v :: vs) H3 F3 R3 (sub_refl F3) (.cons (dp_sub e3 dp2) dp3)
def tupD (ds : List D) : Option D := if ds.length ≤ lim then some (.tuple ds) else none
def lstD (ds : List D) : Option D := if ds.length ≤ lim then some (.list ds) else none
def eA (f : List D → Option D) (m : M (List D)) : M D := bnd m fun ds => opt (f ds)
theorem de_tup {es : List Expr} {k : Nat} {m : M (List D)} {pos : Pos} (h : DA X C es m) : DE X C (.Tuple es k pos) (eA tupD m) := fun P G => by
  refine PE.imp (pe_tup (h P G)) fun σ H Q h => ?_
  refine td_imp (tg_bnd h) fun vs H2 ⟨ds, s2, F2, R2, dp2, p2⟩ => ?_
  obtain ⟨r, er, wr⟩ := post_opt p2
  unfold tupD at er
  split at er
  · rename_i hz
    cases er
    exact ⟨lim_line (by rw [dps_len dp2]; exact hz), wn_tup R2 wr dp2⟩
  · cases er
theorem de_lst {es : List Expr} {m : M (List D)} {pos : Pos} (h : DA X C es m) : DE X C (.List es pos) (eA lstD m) := fun P G => by
  refine PE.imp (pe_lst (h P G)) fun σ H Q h => ?_
  refine td_imp (tg_bnd h) fun vs H2 ⟨ds, s2, F2, R2, dp2, p2⟩ => ?_
  obtain ⟨r, er, wr⟩ := post_opt p2
  unfold lstD at er
  split at er
  · rename_i hz
    cases er
    exact ⟨lim_line (by rw [dps_len dp2]; exact hz), wn_lst R2 wr dp2⟩
  · cases er

/-! ### built-in functions, by values -/
def RLok (C : Ct) (f : List D → Option D) : List V → Hp → VK → Prop := fun vs H Q => ∃ σ s F ds r, Rel C σ H s F ∧ RpAll C.K F vs ds ∧ f ds = some r ∧ Wn C σ s F r Q
theorem de_callB {f : List D → Option D} {id : String} {x : Str} {p pos : Pos} {e : Expr} {es : List Expr} {m : M (List D)} (hc : ∀ P G, CallR X (.builtin id) (RLok { C with P := P, F0 := G } f)) (hg : Gl X x) (hm : X.mg x = none) (hv : bootBuiltins x = some (.builtin id)) (ha : DA X C (e :: es) m) (hn : x ≠ "__name__" := by decide)
    (hdb : (x == ("__debug__" : Str)) = false := by decide) (he : starEach (e :: es) X.env = (false, eval e X.env) :: starEach es X.env := by rfl) (hpl : (backTo pos (starEach es X.env)).any (·.1) = false := by rfl) : DE X C (.Call (.Name x p) (e :: es) [] pos) (eA f m) := fun P G =>
  PE.imp (pe_callB (hc P G) hg hm hv (ha P G) hn hdb he hpl) fun σ H Q h => td_imp (tg_bnd h) fun vs H2 ⟨ds, s2, F2, R2, dp2, p2⟩ => let ⟨r, er, wr⟩ := post_opt p2; ⟨σ, s2, F2, ds, r, R2, dp2, er, wr⟩
theorem de_callTy {f : List D → Option D} {id : String} {x : Str} {p pos : Pos} {e : Expr} {es : List Expr} {m : M (List D)} (hc : ∀ P G, CallR X (.type id) (RLok { C with P := P, F0 := G } f)) (hg : Gl X x) (hm : X.mg x = none) (hv : bootBuiltins x = some (.type id)) (ha : DA X C (e :: es) m) (hn : x ≠ "__name__" := by decide)
    (hdb : (x == ("__debug__" : Str)) = false := by decide) (he : starEach (e :: es) X.env = (false, eval e X.env) :: starEach es X.env := by rfl) (hpl : (backTo pos (starEach es X.env)).any (·.1) = false := by rfl) : DE X C (.Call (.Name x p) (e :: es) [] pos) (eA f m) := fun P G =>
  PE.imp (pe_callTy (hc P G) hg hm hv (ha P G) hn hdb he hpl) fun σ H Q h => td_imp (tg_bnd h) fun vs H2 ⟨ds, s2, F2, R2, dp2, p2⟩ => let ⟨r, er, wr⟩ := post_opt p2; ⟨σ, s2, F2, ds, r, R2, dp2, er, wr⟩
def asInts : List D → Option (List Int)
  | [] => some []
  | .int i :: r => (asInts r).map (i :: ·)
  | _ => none
theorem asInts_vs {K : PySem.W.Frag} {F : Hp} : ∀ {ds : List D} {vs : List V} {ns : List Int}, RpAll K F vs ds → asInts ds = some ns → vs = ns.map V.int
  | [], _, ns, .nil, e => by cases e; rfl
  | d :: ds, _, ns, .cons h r, e => by
    cases h with
    | int i =>
      simp only [asInts] at e
      cases q : asInts ds with
      | none => rw [q] at e; cases e
      | some ms =>
        rw [q] at e
        cases e
        rw [asInts_vs r q]
        rfl
    | _ => simp only [asInts] at e; cases e
def asBools : List D → Option (List Bool)
  | [] => some []
  | .bool i :: r => (asBools r).map (i :: ·)
  | _ => none
theorem asBools_vs {K : PySem.W.Frag} {F : Hp} : ∀ {ds : List D} {vs : List V} {ns : List Bool}, RpAll K F vs ds → asBools ds = some ns → vs = ns.map V.bl
  | [], _, ns, .nil, e => by cases e; rfl
  | d :: ds, _, ns, .cons h r, e => by
    cases h with
    | bl i =>
      simp only [asBools] at e
      cases q : asBools ds with
      | none => rw [q] at e; cases e
      | some ms =>
        rw [q] at e
        cases e
        rw [asBools_vs r q]
        rfl
    | _ => simp only [asBools] at e; cases e
def lenD : List D → Option D
  | [.tuple xs] => some (.int xs.length)
  | [.list xs] => some (.int xs.length)
  | _ => none
theorem dps1 {K : PySem.W.Frag} {F : Hp} {vs : List V} {d : D} (h : RpAll K F vs [d]) : ∃ v, vs = [v] ∧ Rp K F v d := by
  cases h with
  | cons h r => cases r; exact ⟨_, rfl, h⟩
theorem dps2 {K : PySem.W.Frag} {F : Hp} {vs : List V} {d e : D} (h : RpAll K F vs [d, e]) : ∃ v w, vs = [v, w] ∧ Rp K F v d ∧ Rp K F w e := by
  cases h with
  | cons h r => obtain ⟨w, e, q⟩ := dps1 r; subst e; exact ⟨_, _, rfl, h, q⟩
theorem cr_lenD (hK : C.K = X.K) : CallR X (.builtin "len") (RLok C lenD) := by
  intro pins s σ H xs us Q I r h
  obtain ⟨σ', s', F, ds, r0, R, dp, er, wr⟩ := h
  unfold lenD at er
  split at er
  · cases er
    obtain ⟨v, e, q⟩ := dps1 dp
    subst e
    cases q with
    | tup sx ax =>
      exact call_len_seq pins s σ H _ us Q I r ⟨_, _, rfl, .inr (SqT.of (R.gr.fsub _ _ sx)), by rw [dps_len ax]; exact wn_int R wr⟩
  · cases er
    obtain ⟨v, e, q⟩ := dps1 dp
    subst e
    cases q with
    | lst sx ax => exact call_len_seq pins s σ H _ us Q I r ⟨_, _, rfl, .inl (SqL.of (R.gr.fsub _ _ sx)), by rw [dps_len ax]; exact wn_int R wr⟩
  · cases er
def absD : List D → Option D
  | [.int i] => some (.int (if i < 0 then -i else i))
  | _ => none
theorem cr_absD : CallR X (.builtin "abs") (RLok C absD) := by
  intro pins s σ H xs us Q I r h
  obtain ⟨σ', s', F, ds, r0, R, dp, er, wr⟩ := h
  unfold absD at er
  split at er
  · cases er
    obtain ⟨v, e, q⟩ := dps1 dp
    subst e
    cases q
    exact call_abs pins s σ H _ us Q I r ⟨_, rfl, wn_int R wr⟩
  · cases er
def intD : List D → Option D
  | [.int i] => some (.int i)
  | [.bool k] => some (.int (if k then 1 else 0))
  | _ => none
theorem cr_intD : CallR X (.type "int") (RLok C intD) := by
  intro pins s σ H xs us Q I r h
  obtain ⟨σ', s', F, ds, r0, R, dp, er, wr⟩ := h
  unfold intD at er
  split at er
  · cases er
    obtain ⟨v, e, q⟩ := dps1 dp
    subst e
    cases q
    exact call_int1 pins s σ H _ us Q I r (.inl ⟨_, rfl, wn_int R wr⟩)
  · cases er
    obtain ⟨v, e, q⟩ := dps1 dp
    subst e
    cases q
    exact call_int1 pins s σ H _ us Q I r (.inr ⟨_, rfl, wn_int R wr⟩)
  · cases er
def max2D : List D → Option D
  | [.int i, .int j] => some (.int (if j > i then j else i))
  | _ => none
theorem cr_max2D (hc : X.calm = true) : CallR X (.builtin "max") (RLok C max2D) := by
  intro pins s σ H xs us Q I r h
  obtain ⟨σ', s', F, ds, r0, R, dp, er, wr⟩ := h
  unfold max2D at er
  split at er
  · cases er
    obtain ⟨v, w, e, q1, q2⟩ := dps2 dp
    subst e
    cases q1
    cases q2
    exact call_max2 hc pins s σ H _ us Q I r ⟨_, _, rfl, wn_int R wr⟩
  · cases er
def min2D : List D → Option D
  | [.int i, .int j] => some (.int (if j < i then j else i))
  | _ => none
theorem cr_min2D (hc : X.calm = true) : CallR X (.builtin "min") (RLok C min2D) := by
  intro pins s σ H xs us Q I r h
  obtain ⟨σ', s', F, ds, r0, R, dp, er, wr⟩ := h
  unfold min2D at er
  split at er
  · cases er
    obtain ⟨v, w, e, q1, q2⟩ := dps2 dp
    subst e
    cases q1
    cases q2
    exact call_min2 hc pins s σ H _ us Q I r ⟨_, _, rfl, wn_int R wr⟩
  · cases er
theorem sum_rawT {prog : Program} {w : World} {A : Around} {E : Value → Shared → Prop} {s : Shared} {t : Addr} {its : List Value} {ns : List Int} {Q : Value → Shared → Prop} (hh : A.handled = none) (hl : IsTup s.heap t its.toArray) (hi : IntsAre its ns)
    (h : ∀ h' tk t', (∀ b o, s.heap.get? b = some o → h'.get? b = some o) → Q (.int ns.sum t') { s with heap := h', toks := tk }) : wpAny (model prog w) A (call (.builtin "sum") [.ref t]) Q E s := by
  obtain ⟨xs, e⟩ := hi.allInts.items
  have hn : numsOf (intItems xs).toList = ns := by rw [← e]; exact hi.numsOf
  rw [nums_intItems] at hn
  obtain ⟨o, ho, hc, n, hd⟩ := hl
  rw [e] at hd
  have ht : s.heap.IsTuple t (intItems xs) := ⟨o, ho, hc, n, hd⟩
  refine PySem.W.ktm_sumG hh ht fun h' tk t' hk => ?_
  have := h h' tk t' hk
  rw [preSum_eq, List.take_of_length_le (by simp), hn]; exact this
theorem cr_sumT (hc : X.calm = true) : CallR X (.builtin "sum") (fun vs H Q => ∃ (a : Addr) (ns : List Int), vs = [V.ref a] ∧ SqT X.K H a (ns.map V.int) ∧ Q (.int ns.sum) H) := by
  intro pins s σ H vs us Q I r h
  obtain ⟨a, ns, rfl, hs, q⟩ := h
  obtain ⟨its, rv, hl, _⟩ := I.tuple hs
  rw [Vals.ref1 r]
  exact sum_rawT (I.ok.hd hc) hl rv.ints fun h' tk t' hk => ⟨.int _, H, I.kept hk, ⟨_, rfl⟩, q⟩
def sumD : List D → Option D
  | [.list xs] => (asInts xs).map fun ns => .int ns.sum
  | [.tuple xs] => (asInts xs).map fun ns => .int ns.sum
  | _ => none
theorem cr_sumD (hc : X.calm = true) : CallR X (.builtin "sum") (RLok C sumD) := by
  intro pins s σ H xs us Q I r h
  obtain ⟨σ', s', F, ds, r0, R, dp, er, wr⟩ := h
  unfold sumD at er
  split at er
  · rename_i xs0
    obtain ⟨v, e, q⟩ := dps1 dp
    subst e
    cases e2 : asInts xs0 with
    | none => rw [e2] at er; cases er
    | some ns =>
      rw [e2] at er
      cases er
      cases q with
      | lst sx ax =>
        rw [asInts_vs ax e2] at sx
        exact cr_sum hc pins s σ H _ us Q I r ⟨_, _, rfl, SqL.of (R.gr.fsub _ _ sx), wn_int R wr⟩
  · rename_i xs0
    obtain ⟨v, e, q⟩ := dps1 dp
    subst e
    cases e2 : asInts xs0 with
    | none => rw [e2] at er; cases er
    | some ns =>
      rw [e2] at er
      cases er
      cases q with
      | tup sx ax =>
        rw [asInts_vs ax e2] at sx
        exact cr_sumT hc pins s σ H _ us Q I r ⟨_, _, rfl, SqT.of (R.gr.fsub _ _ sx), wn_int R wr⟩
  · cases er
def allD : List D → Option D
  | [.list xs] => (asBools xs).map fun ns => .bool (ns.all id)
  | _ => none
theorem cr_allD (hc : X.calm = true) : CallR X (.builtin "all") (RLok C allD) := by
  intro pins s σ H xs us Q I r h
  obtain ⟨σ', s', F, ds, r0, R, dp, er, wr⟩ := h
  unfold allD at er
  split at er
  · rename_i xs0
    obtain ⟨v, e, q⟩ := dps1 dp
    subst e
    cases e2 : asBools xs0 with
    | none => rw [e2] at er; cases er
    | some ns =>
      rw [e2] at er
      cases er
      cases q with
      | lst sx ax =>
        rw [asBools_vs ax e2] at sx
        exact cr_all hc pins s σ H _ us Q I r ⟨_, _, rfl, SqL.of (R.gr.fsub _ _ sx), wn_bl R wr⟩
  · cases er
def anyD : List D → Option D
  | [.list xs] => (asBools xs).map fun ns => .bool (ns.any id)
  | _ => none
theorem cr_anyD (hc : X.calm = true) : CallR X (.builtin "any") (RLok C anyD) := by
  intro pins s σ H xs us Q I r h
  obtain ⟨σ', s', F, ds, r0, R, dp, er, wr⟩ := h
  unfold anyD at er
  split at er
  · rename_i xs0
    obtain ⟨v, e, q⟩ := dps1 dp
    subst e
    cases e2 : asBools xs0 with
    | none => rw [e2] at er; cases er
    | some ns =>
      rw [e2] at er
      cases er
      cases q with
      | lst sx ax =>
        rw [asBools_vs ax e2] at sx
        exact cr_any hc pins s σ H _ us Q I r ⟨_, _, rfl, SqL.of (R.gr.fsub _ _ sx), wn_bl R wr⟩
  · cases er
def tupOfD : List D → Option D
  | [.list xs] => some (.tuple xs)
  | [.tuple xs] => some (.tuple xs)
  | _ => none
theorem cr_tupOfD (hK : C.K = X.K) : CallR X (.type "tuple") (RLok C tupOfD) := by
  intro pins s σ H xs us Q I r h
  obtain ⟨σ', s', F, ds, r0, R, dp, er, wr⟩ := h
  unfold tupOfD at er
  split at er
  · cases er
    obtain ⟨v, e, q⟩ := dps1 dp
    subst e
    cases q with
    | lst sx ax => exact call_tuple_of pins s σ H _ us Q I r ⟨_, _, rfl, .inl ⟨SqL.of (R.gr.fsub _ _ sx), wn_tup R wr ax⟩⟩
  · cases er
    obtain ⟨v, e, q⟩ := dps1 dp
    subst e
    cases q with
    | tup sx ax =>
      exact call_tuple_of pins s σ H _ us Q I r ⟨_, _, rfl, .inr ⟨SqT.of (R.gr.fsub _ _ sx), wr _ _ _ R (sub_refl F) (.tup sx ax)⟩⟩
  · cases er
def lstOfD : List D → Option D
  | [.list xs] => some (.list xs)
  | [.tuple xs] => some (.list xs)
  | _ => none
theorem cr_lstOfD (hK : C.K = X.K) : CallR X (.type "list") (RLok C lstOfD) := by
  intro pins s σ H xs us Q I r h
  obtain ⟨σ', s', F, ds, r0, R, dp, er, wr⟩ := h
  unfold lstOfD at er
  split at er
  · cases er
    obtain ⟨v, e, q⟩ := dps1 dp
    subst e
    cases q with
    | lst sx ax => exact call_list_of pins s σ H _ us Q I r ⟨_, _, rfl, .inl (SqL.of (R.gr.fsub _ _ sx)), wn_lst R wr ax⟩
  · cases er
    obtain ⟨v, e, q⟩ := dps1 dp
    subst e
    cases q with
    | tup sx ax =>
      exact call_list_of pins s σ H _ us Q I r ⟨_, _, rfl, .inr (SqT.of (R.gr.fsub _ _ sx)), wn_lst R wr ax⟩
  · cases er

/-! ### isinstance -/
def tyD : D → String
  | .none => "NoneType"
  | .bool _ => "bool"
  | .int _ => "int"
  | .str _ => "str"
  | .list _ => "list"
  | .tuple _ => "tuple"
  | .dict _ => "dict"
theorem tyX_of {K : PySem.W.Frag} {F H : Hp} (e : Sub F H) {v : V} {d : D} (h : Rp K F v d) : TyX K H v (.type (tyD d)) := by
  cases h with
  | non => exact .base .non
  | bl b => exact .base (.bl b)
  | int i => exact .base (.int i)
  | str x => exact .base (.str x)
  | lst h r => exact .base (.lst (e _ _ h))
  | tup h r => exact .base (.tup (e _ _ h))
def eIsi (f : D → Bool) (m : M D) : M D := e1 (fun d => some (.bool (f d))) m
theorem de_isi {x T : Str} {T' : String} {f : D → Bool} {e : Expr} {m : M D} {p p2 pos : Pos} (hf : ∀ d, (∀ k, d ≠ .dict k) → kitB (tyD d) T' = some (f d)) (hg : Gl X x) (hm : X.mg x = none) (hv : bootBuiltins x = some (.builtin "isinstance")) (hgT : Gl X T) (hmT : X.mg T = none) (hvT : bootBuiltins T = some (.type T'))
    (hK : C.K = X.K) (he : DE X C e m) (hn : x ≠ "__name__" := by decide) (hnT : T ≠ "__name__" := by decide) (hdb : (x == ("__debug__" : Str)) = false := by decide) (hdT : (T == ("__debug__" : Str)) = false := by decide)
    (hst : starEach [e, .Name T p2] X.env = (false, eval e X.env) :: starEach [.Name T p2] X.env := by rfl) (hst2 : starEach [.Name T p2] X.env = (false, eval (.Name T p2) X.env) :: starEach [] X.env := by rfl) (hpl : (backTo pos (starEach [.Name T p2] X.env)).any (·.1) = false := by rfl) :
    DE X C (.Call (.Name x p) [e, .Name T p2] [] pos) (eIsi f m) := fun P G => by
  refine PE.imp (pe_callB call_isi hg hm hv (pa_cons (he P G) (pa_cons (pe_bltn (v := .ty T') hgT hmT hvT rfl hnT hdT) pa_nil hst2) hst) hn hdb hst hpl) fun σ H Q h => ?_
  refine td_imp (tg_bnd h) fun v H2 ⟨d, s2, F2, R2, dp2, p2⟩ => ?_
  obtain ⟨r, er, wr⟩ := post_opt p2
  cases er
  have hd : ∀ k, d ≠ .dict k := fun k z => by subst z; cases dp2
  exact ⟨v, .ty T', .type (tyD d), .type T', f d, rfl, .ty T', by rw [← hK]; exact tyX_of R2.gr.fsub dp2, kit_ty (hf d hd), wn_bl R2 wr⟩
def isIntD : D → Bool
  | .int _ => true
  | .bool _ => true
  | _ => false
def isBoolD : D → Bool
  | .bool _ => true
  | _ => false
def isStrD : D → Bool
  | .str _ => true
  | _ => false
def isTupD : D → Bool
  | .tuple _ => true
  | _ => false
def isLstD : D → Bool
  | .list _ => true
  | _ => false
theorem kit_int (d : D) (h : ∀ k, d ≠ .dict k) : kitB (tyD d) "int" = some (isIntD d) := by cases d <;> first | exact absurd rfl (h _) | (simp only [tyD, isIntD]; decide +kernel)
theorem kit_bool (d : D) (h : ∀ k, d ≠ .dict k) : kitB (tyD d) "bool" = some (isBoolD d) := by cases d <;> first | exact absurd rfl (h _) | (simp only [tyD, isBoolD]; decide +kernel)
theorem kit_str (d : D) (h : ∀ k, d ≠ .dict k) : kitB (tyD d) "str" = some (isStrD d) := by cases d <;> first | exact absurd rfl (h _) | (simp only [tyD, isStrD]; decide +kernel)
theorem kit_tup (d : D) (h : ∀ k, d ≠ .dict k) : kitB (tyD d) "tuple" = some (isTupD d) := by cases d <;> first | exact absurd rfl (h _) | (simp only [tyD, isTupD]; decide +kernel)
theorem kit_lst (d : D) (h : ∀ k, d ≠ .dict k) : kitB (tyD d) "list" = some (isLstD d) := by cases d <;> first | exact absurd rfl (h _) | (simp only [tyD, isLstD]; decide +kernel)
end
end PL
set_option maxHeartbeats 2000000
namespace PL
open PySem PySem.Spec PyProof.Rows L2 LamX
section
variable {X : Cx} {C : Ct}
/-! ### in -/
def inD : D → D → Option D
  | d, .list xs => if (shD d && shD (.list xs)) = true then some (.bool (xs.any fun z => PyData.eqv z d)) else none
  | d, .tuple xs => if (shD d && shD (.tuple xs)) = true then some (.bool (xs.any fun z => PyData.eqv z d)) else none
  | _, _ => none
def ninD : D → D → Option D
  | d, .list xs => if (shD d && shD (.list xs)) = true then some (.bool (!xs.any fun z => PyData.eqv z d)) else none
  | d, .tuple xs => if (shD d && shD (.tuple xs)) = true then some (.bool (!xs.any fun z => PyData.eqv z d)) else none
  | _, _ => none
theorem op_inD' (hK : C.K = X.K) (hu : X.A.units + 65 < cLine) : OpR X (compareOp .In) (R2ok C inD) := by
  intro pins s σ H x y v u Q I rx ry h
  obtain ⟨σ', s', F, d, e, r, R, dx, dy, er, wr⟩ := h
  have px := dp0_sub R.gr.fsub (rp_dp dx)
  have py := dp0_sub R.gr.fsub (rp_dp dy)
  rw [hK] at px py
  unfold inD at er
  split at er
  · split at er
    · rename_i hz
      cases er
      simp only [Bool.and_eq_true] at hz
      exact op_inD hu pins s σ H _ _ v u Q I rx ry ⟨_, _, px, py, hz.1, hz.2, wn_bl R wr⟩
    · cases er
  · split at er
    · rename_i xs hz
      cases er
      simp only [Bool.and_eq_true] at hz
      obtain ⟨as, r1⟩ := Dp.reads I _ x v px rx
      obtain ⟨bs, r2⟩ := Dp.reads I _ y u py ry
      exact SeqAt.in_tuple_reads r2 r1 (SeqAt.canLay_of_shaped (d := .tuple xs) hz.2) (SeqAt.canLay_of_shaped hz.1) (room_in_shaped hz.1 hu) ⟨.bl _, H, I, rfl, wn_bl R wr⟩
    · cases er
  · cases er
theorem op_ninD' (hK : C.K = X.K) (hu : X.A.units + 65 < cLine) : OpR X (compareOp .NotIn) (R2ok C ninD) := by
  intro pins s σ H x y v u Q I rx ry h
  obtain ⟨σ', s', F, d, e, r, R, dx, dy, er, wr⟩ := h
  have px := dp0_sub R.gr.fsub (rp_dp dx)
  have py := dp0_sub R.gr.fsub (rp_dp dy)
  rw [hK] at px py
  unfold ninD at er
  split at er
  · split at er
    · rename_i hz
      cases er
      simp only [Bool.and_eq_true] at hz
      exact op_notInD hu pins s σ H _ _ v u Q I rx ry ⟨_, _, px, py, hz.1, hz.2, wn_bl R wr⟩
    · cases er
  · split at er
    · rename_i xs hz
      cases er
      simp only [Bool.and_eq_true] at hz
      obtain ⟨as, r1⟩ := Dp.reads I _ x v px rx
      obtain ⟨bs, r2⟩ := Dp.reads I _ y u py ry
      exact SeqAt.notIn_tuple_reads r2 r1 (SeqAt.canLay_of_shaped (d := .tuple xs) hz.2) (SeqAt.canLay_of_shaped hz.1) (room_in_shaped hz.1 hu) ⟨.bl _, H, I, rfl, wn_bl R wr⟩
    · cases er
  · cases er
/-! ### chains -/
def asB : D → M Bool
  | .bool b => ret b
  | _ => bad
theorem post_optB {α β : Type} {rep : Hp → β → α → Prop} {σ : L2.St} {s : S} {F : Hp} {r : Option D} {k : Bool → M α} {Q : β → Hp → Prop} (h : PostG C σ rep F (bnd (bnd (opt r) asB) k s) Q) :
    ∃ d, r = some d ∧ ∃ b, d = .bool b ∧ PostG C σ rep F (k b s) Q := by
  cases r with
  | none => exact h.elim
  | some d =>
    cases d with
    | bool b => exact ⟨_, rfl, b, rfl, h⟩
    | _ => exact h.elim
def eChain (f g : D → D → Option D) (ma mb mc : M D) : M D := bnd ma fun x => bnd mb fun y => bnd (bnd (opt (f x y)) asB) fun b => if b = true then bnd mc fun z => opt (g y z) else ret (.bool false)
theorem de_chain {f g : D → D → Option D} {op op' : CmpOp} {a b c : Expr} {ma mb mc : M D} {pos : Pos} (ho : ∀ P G, OpR X (compareOp op) (R2ok { C with P := P, F0 := G } f)) (ho' : ∀ P G, OpR X (compareOp op') (R2ok { C with P := P, F0 := G } g)) (ha : DE X C a ma) (hb : DE X C b mb) (hc : DE X C c mc)
    (hm : lastMarks [op, op'] [b, c] = false := by with_unfolding_all rfl) : DE X C (.Compare a [op, op'] [b, c] pos) (eChain f g ma mb mc) := fun P G => by
  refine PE.imp (pe_chain (ho P G) (ho' P G) (ha P G) (hb P G) (hc P G) hm) fun σ H Q h => ?_
  obtain ⟨s, F, R, h⟩ := h
  refine td_imp (td_bnd R h) fun v H2 ⟨d, s2, F2, R2, e2, dp2, p2⟩ => td_imp (td_bnd R2 p2) fun w H3 ⟨e, s3, F3, R3, e3, dp3, p3⟩ => ?_
  obtain ⟨r, q, b, rb, p3⟩ := post_optB p3
  subst rb
  refine ⟨σ, s3, F3, d, e, _, R3, dp_sub e3 dp2, dp3, q, fun v4 H4 F4 R4 e4 dp4 => ?_⟩
  cases dp4
  refine ⟨b, rfl, ?_⟩
  cases b with
  | false =>
    rw [if_neg (by decide)] at p3 ⊢
    exact p3 _ _ _ R4 e4 (.bl false)
  | true =>
    rw [if_pos rfl] at p3 ⊢
    refine td_imp (td_bnd R4 (PostG.mono p3 e4)) fun z H5 ⟨d5, s5, F5, R5, e5, dp5, p5⟩ => ?_
    obtain ⟨r, er, wr⟩ := post_opt p5
    exact ⟨σ, s5, F5, e, d5, r, R5, dp_sub (sub_trans e4 e5) dp3, dp5, er, wr⟩

/-! ### and, or, not, tests -/
def eAnd (ma mb : M D) : M D := bnd (bnd ma asB) fun b => if b = true then mb else ret (.bool false)
def eOr (ma mb : M D) : M D := bnd (bnd ma asB) fun b => if b = true then ret (.bool true) else mb
def eNot (ma : M D) : M D := bnd (bnd ma asB) fun b => ret (.bool !b)
theorem td_asB {ma : M D} {k : Bool → M D} {σ : L2.St} {H : Hp} {Q : VK} (h : TD C (bnd (bnd ma asB) k) σ H Q) :
    TD C ma σ H fun v H' => ∃ b, v = .bl b ∧ TD C (k b) σ H' Q := by
  obtain ⟨s, F, R, h⟩ := h
  have h' : PostG C σ (Rp C.K) F (bnd ma (fun d => bnd (asB d) k) s) Q := by
    revert h
    unfold bnd
    cases ma s <;> exact id
  refine td_imp (td_bnd R h') fun v H2 ⟨d, s2, F2, R2, e2, dp2, p2⟩ => ?_
  cases dp2 with
  | bl b => exact ⟨b, rfl, s2, F2, R2, p2⟩
  | _ => exact p2.elim
theorem td_ret {σ : L2.St} {H : Hp} {Q : VK} {d : D} {v : V} (h : TD C (ret d) σ H Q) (hv : ∀ F, Rp C.K F v d) : Q v H := by
  obtain ⟨s, F, R, h⟩ := h
  exact h v H F R (sub_refl F) (hv F)
theorem de_one {op} {a : Expr} {ma : M D} {pos : Pos} (ha : DE X C a ma) : DE X C (.BoolOp op [a] pos) ma := fun P G => pe_one (ha P G)
theorem de_and {a b : Expr} {r : List Expr} {ma mb : M D} {pos : Pos} (ha : DE X C a ma) (hb : DE X C (.BoolOp .And (b :: r) pos) mb) : DE X C (.BoolOp .And (a :: b :: r) pos) (eAnd ma mb) := fun P G => by
  refine PE.imp (pe_and (ha P G) (hb P G)) fun σ H Q h => td_imp (td_asB h) fun v H2 ⟨b, e, t⟩ => ⟨b, e, ?_⟩
  cases b with
  | true => exact t
  | false => exact td_ret t fun _ => .bl false
theorem de_or {a b : Expr} {r : List Expr} {ma mb : M D} {pos : Pos} (ha : DE X C a ma) (hb : DE X C (.BoolOp .Or (b :: r) pos) mb) : DE X C (.BoolOp .Or (a :: b :: r) pos) (eOr ma mb) := fun P G => by
  refine PE.imp (pe_or (ha P G) (hb P G)) fun σ H Q h => td_imp (td_asB h) fun v H2 ⟨b, e, t⟩ => ⟨b, e, ?_⟩
  cases b with
  | true => exact td_ret t fun _ => .bl true
  | false => exact t
theorem de_not {a : Expr} {ma : M D} {pos : Pos} (ha : DE X C a ma) : DE X C (.UnaryOp .Not a pos) (eNot ma) := fun P G => by
  refine PE.imp (pe_not (ha P G)) fun σ H Q h => td_imp (td_asB h) fun v H2 ⟨b, e, t⟩ => ⟨b, e, td_ret t fun _ => .bl _⟩
/-- tests -/
def tV (ma : M D) : M Bool := bnd ma asB
def tAnd (ma mb : M Bool) : M Bool := bnd ma fun b => if b = true then mb else ret false
def tOr (ma mb : M Bool) : M Bool := bnd ma fun b => if b = true then ret true else mb
def tNot (ma : M Bool) : M Bool := bnd ma fun b => ret !b
theorem td_tV {ma : M D} {σ : L2.St} {H : Hp} {Q : Bool → Hp → Prop} (h : TDT C (tV ma) σ H Q) : TD C ma σ H fun v H' => ∃ b, v = .bl b ∧ Q b H' := by
  refine td_imp (tg_bnd h) fun v H2 ⟨d, s2, F2, R2, dp2, p2⟩ => ?_
  cases dp2 with
  | bl b => exact ⟨b, rfl, p2 b H2 F2 R2 (sub_refl F2) rfl⟩
  | _ => exact p2.elim
theorem dt_val {e : Expr} {m : M D} (h : DE X C e m) (he : ∀ whole, isTrue e X.env whole = (do let v ← whole; standAt e.pos; holding [v] (truthy v)) := by intro _; rfl) : DT X C e (tV m) := fun P G =>
  PT.imp (pt_val (h P G) he) fun σ H Q h => td_tV h
theorem dt_cmp {f : D → D → Option D} {op : CmpOp} {a b : Expr} {ma mb : M D} {pos : Pos} (ho : ∀ P G, OpR X (compareOp op) (R2ok { C with P := P, F0 := G } f)) (ha : DE X C a ma) (hb : DE X C b mb) (hm : behindInMarks op b = false) : DT X C (.Compare a [op] [b] pos) (tV (e2 f ma mb)) := fun P G =>
  PT.imp (pt_cmpR (ho P G) (ha P G) (hb P G) hm) fun σ H Q h => td_op (td_tV h)
theorem dt_chain {f g : D → D → Option D} {op op' : CmpOp} {a b c : Expr} {ma mb mc : M D} {pos : Pos} (ho : ∀ P G, OpR X (compareOp op) (R2ok { C with P := P, F0 := G } f)) (ho' : ∀ P G, OpR X (compareOp op') (R2ok { C with P := P, F0 := G } g)) (ha : DE X C a ma) (hb : DE X C b mb) (hc : DE X C c mc)
    (hm : lastMarks [op, op'] [b, c] = false := by with_unfolding_all rfl) : DT X C (.Compare a [op, op'] [b, c] pos) (tV (eChain f g ma mb mc)) := fun P G => by
  refine PT.imp (pt_chain (ho P G) (ho' P G) (ha P G) (hb P G) (hc P G) hm) fun σ H Q h => ?_
  obtain ⟨s, F, R, h⟩ := td_tV h
  refine td_imp (td_bnd R h) fun v H2 ⟨d, s2, F2, R2, e2, dp2, p2⟩ => td_imp (td_bnd R2 p2) fun w H3 ⟨e, s3, F3, R3, e3, dp3, p3⟩ => ?_
  obtain ⟨r, q, b, rb, p3⟩ := post_optB p3
  subst rb
  refine ⟨σ, s3, F3, d, e, _, R3, dp_sub e3 dp2, dp3, q, fun v4 H4 F4 R4 e4 dp4 => ?_⟩
  cases dp4
  refine ⟨b, rfl, ?_⟩
  cases b with
  | false =>
    rw [if_neg (by decide)] at p3 ⊢
    exact p3 _ _ _ R4 e4 (.bl false)
  | true =>
    rw [if_pos rfl] at p3 ⊢
    refine td_imp (td_bnd R4 (PostG.mono p3 e4)) fun z H5 ⟨d5, s5, F5, R5, e5, dp5, p5⟩ => ?_
    obtain ⟨r, er, wr⟩ := post_opt p5
    exact ⟨σ, s5, F5, e, d5, r, R5, dp_sub (sub_trans e4 e5) dp3, dp5, er, wr⟩
theorem dt_isN {a : Expr} {ma : M D} {pos : Pos} {j : Nat} {p2 : Pos} (ha : DE X C a ma) : DT X C (.Compare a [.Is] [.Constant .none j p2] pos) (tV (e1 isN ma)) := fun P G => by
  refine PT.imp (pt_cmp (pc_isN (j := j) (pos' := p2) (ha P G)) (by rfl)) fun σ H Q h => ?_
  refine td_imp (td_un (td_tV h)) fun v H' ⟨σ', s', F, d, r, R, dx, er, wr⟩ => ?_
  cases dx <;> simp only [isN] at er <;> cases er <;> exact wn_bl R wr
theorem dt_notN {a : Expr} {ma : M D} {pos : Pos} {j : Nat} {p2 : Pos} (ha : DE X C a ma) : DT X C (.Compare a [.IsNot] [.Constant .none j p2] pos) (tV (e1 notN ma)) := fun P G => by
  refine PT.imp (pt_cmp (pc_notN (j := j) (pos' := p2) (ha P G)) (by rfl)) fun σ H Q h => ?_
  refine td_imp (td_un (td_tV h)) fun v H' ⟨σ', s', F, d, r, R, dx, er, wr⟩ => ?_
  cases dx <;> simp only [notN] at er <;> cases er <;> exact wn_bl R wr
theorem td_bndT {α : Type} {rep2 : Hp → α → α → Prop} {ma : M Bool} {k : Bool → M Bool} {σ : L2.St} {H : Hp} {Q : Bool → Hp → Prop} (h : TDT C (bnd ma k) σ H Q) : TDT C ma σ H fun b H' => TDT C (k b) σ H' Q :=
  td_imp (tg_bnd h) fun v H2 ⟨d, s2, F2, R2, dp2, p2⟩ => by cases dp2; exact ⟨s2, F2, R2, p2⟩
theorem td_retT {σ : L2.St} {H : Hp} {Q : Bool → Hp → Prop} {b : Bool} (h : TDT C (ret b) σ H Q) : Q b H := by
  obtain ⟨s, F, R, h⟩ := h
  exact h b H F R (sub_refl F) rfl
theorem dt_not {a : Expr} {ma : M Bool} {pos : Pos} (ha : DT X C a ma) : DT X C (.UnaryOp .Not a pos) (tNot ma) := fun P G =>
  PT.imp (pt_not (ha P G)) fun σ H Q h => td_imp (td_bndT (α := Nat) (rep2 := fun _ _ _ => True) h) fun b H2 t => td_retT t
theorem dw_pt {e : Expr} {m : M Bool} (h : DW X C e m) : DT X C e m := fun P G => (h P G).pt
theorem dw_and1 {a : Expr} {ma : M Bool} {pos : Pos} (ha : DT X C a ma) : DW X C (.BoolOp .And [a] pos) ma := fun P G => pw_and1 (ha P G)
theorem dw_or1 {a : Expr} {ma : M Bool} {pos : Pos} (ha : DT X C a ma) : DW X C (.BoolOp .Or [a] pos) ma := fun P G => pw_or1 (ha P G)
theorem dw_and {a b : Expr} {r : List Expr} {ma mb : M Bool} {pos : Pos} (ha : DT X C a ma) (hb : DW X C (.BoolOp .And (b :: r) pos) mb) : DW X C (.BoolOp .And (a :: b :: r) pos) (tAnd ma mb) := fun P G => by
  refine PW.imp (pw_and (ha P G) (hb P G)) fun σ H Q h => td_imp (td_bndT (α := Nat) (rep2 := fun _ _ _ => True) h) fun b H2 t => ?_
  cases b with
  | true => exact t
  | false => exact td_retT t
theorem dw_or {a b : Expr} {r : List Expr} {ma mb : M Bool} {pos : Pos} (ha : DT X C a ma) (hb : DW X C (.BoolOp .Or (b :: r) pos) mb) : DW X C (.BoolOp .Or (a :: b :: r) pos) (tOr ma mb) := fun P G => by
  refine PW.imp (pw_or (ha P G) (hb P G)) fun σ H Q h => td_imp (td_bndT (α := Nat) (rep2 := fun _ _ _ => True) h) fun b H2 t => ?_
  cases b with
  | true => exact td_retT t
  | false => exact t
/-- a if t else b -/
def eIf (mt : M Bool) (ma mb : M D) : M D := bnd mt fun b => if b = true then ma else mb
theorem de_if {c a b : Expr} {mt : M Bool} {ma mb : M D} {pos : Pos} (hc : DT X C c mt) (ha : DE X C a ma) (hb : DE X C b mb) : DE X C (.IfExp c a b pos) (eIf mt ma mb) := fun P G => by
  refine PE.imp (pe_ifExp (hc P G) (ha P G) (hb P G)) fun σ H Q h => td_imp (tg_bnd h) fun b H2 ⟨d, s2, F2, R2, dp2, p2⟩ => ?_
  cases dp2
  cases b with
  | true => exact ⟨s2, F2, R2, p2⟩
  | false => exact ⟨s2, F2, R2, p2⟩
end
end PL
set_option maxHeartbeats 2000000
namespace PL
open PySem PySem.Spec PyProof.Rows L2 LamX
/-! ### own lists, the cup -/
section
variable {C : Ct} {σ : L2.St} {H : Hp} {s : S} {F : Hp} {a : Addr}
/-- a is nobody's -/
structure Fresh (C : Ct) (σ : L2.St) (s : S) (F : Hp) (a : Addr) : Prop where
  c : a ≠ C.c
  f : F a = none
  h0 : C.H0 a = none
  p : ∀ q ∈ C.P, q.1 ≠ a
  o : ∀ i k, s.r[i]? = some k → isOwn k = true → σ.getD i none ≠ some (.ref a)
theorem fresh_new (R : Rel C σ H s F) (h : H a = none) : Fresh C σ s F a :=
  ⟨R.gr.ne_c h, R.gr.fnone h, R.gr.ref0 h, (fun q hq z => by
    have := (R.gr.pin q hq).1
    rw [z, h] at this
    cases this), fun i k e o z => own_at R e o z h⟩
theorem rel_frzF (R : Rel C σ H s F) (f : Fresh C σ s F a) {o : HO} (h : H a = some o) (nt : NoTbl o) : Rel C σ H s (upd F a o) :=
  ⟨gr_frz R.gr f.f h f.h0 f.c nt f.p, R.len, fun i k e => slOk_frz f.f (fun o z => f.o i k e o z) (R.sl i k e), R.dis⟩
theorem rel_setOwn (R : Rel C σ H s F) {i : Nat} {ho : HO} {ds : Ow} (f : Fresh C σ s F a) (h : H a = some ho) (r : OwR C.K F ho ds) : Rel C (σ.set i (some (.ref a))) H { s with r := s.r.set i (.own ds) } F := by
  refine ⟨R.gr, by simp [R.len], fun j k e => ?_, fun j l b k k' e1 e2 o1 o2 h1 h2 => ?_⟩
  · by_cases hj : j = i
    · subst hj
      have hl : j < s.r.length := by
        have := (List.getElem?_eq_some_iff.mp e).1
        simpa using this
      rw [List.getElem?_set_self hl] at e
      cases e
      refine ⟨a, ho, ?_, f.c, f.f, f.h0, h, r, f.p⟩
      rw [List.getD_eq_getElem?_getD, List.getElem?_set_self (by rw [← R.len]; exact hl)]; rfl
    · rw [List.getElem?_set_ne (Ne.symm hj)] at e
      have x := R.sl j k e
      rw [List.getD_eq_getElem?_getD] at x ⊢
      rw [List.getElem?_set_ne (Ne.symm hj)]
      exact x
  · have at_ : ∀ {m : Nat} {k : Sl}, (s.r.set i (.own ds))[m]? = some k → m = i → (σ.set i (some (V.ref a))).getD m none = some (.ref a) := fun {m k} e z => by
      subst z
      have hl : m < s.r.length := by
        have := (List.getElem?_eq_some_iff.mp e).1
        simpa using this
      rw [List.getD_eq_getElem?_getD, List.getElem?_set_self (by rw [← R.len]; exact hl)]; rfl
    have off : ∀ {m : Nat} {k : Sl}, (s.r.set i (.own ds))[m]? = some k → m ≠ i → s.r[m]? = some k ∧ (σ.set i (some (V.ref a))).getD m none = σ.getD m none := fun {m k} e z => by
      rw [List.getElem?_set_ne (Ne.symm z)] at e
      refine ⟨e, ?_⟩
      rw [List.getD_eq_getElem?_getD, List.getElem?_set_ne (Ne.symm z), ← List.getD_eq_getElem?_getD]
    by_cases z1 : j = i <;> by_cases z2 : l = i
    · rw [z1, z2]
    · obtain ⟨e2', e3⟩ := off e2 z2
      rw [at_ e1 z1] at h1
      cases h1
      rw [e3] at h2
      exact absurd h2 (f.o l k' e2' o2)
    · obtain ⟨e1', e3⟩ := off e1 z1
      rw [at_ e2 z2] at h2
      cases h2
      rw [e3] at h1
      exact absurd h1 (f.o j k e1' o1)
    · obtain ⟨e1', e3⟩ := off e1 z1
      obtain ⟨e2', e4⟩ := off e2 z2
      rw [e3] at h1
      rw [e4] at h2
      exact R.dis j l b k k' e1' e2' o1 o2 h1 h2
theorem gr_mut {k : Int × Int} {o : HO} (g : Gr C H F k) (hc : a ≠ C.c) (hf : F a = none) (h0 : C.H0 a = none) (hp : ∀ q ∈ C.P, q.1 ≠ a) {ho : HO} (hm : IsMu ho) (h : H a = some ho) : Gr C (upd H a o) F k where
  keep := fun b u e1 e2 e3 => by
    have : b ≠ a := fun z => by rw [z, h0] at e1; cases e1
    rw [upd_ne this]; exact g.keep b u e1 e2 e3
  there := fun b e => by
    by_cases hb : b = a
    · rw [hb]; exact h0
    · rw [upd_ne hb] at e; exact g.there b e
  tabs := fun p hp => by
    obtain ⟨ps, e1, e2, e3⟩ := g.tabs p hp
    have n1 : p.1 ≠ a := fun z => by rw [z, h] at e1; exact hm.nt ps (Option.some.inj e1)
    refine ⟨ps, by rw [upd_ne n1]; exact e1, e2, fun pos cv hcv => ?_⟩
    obtain ⟨c, q1, q2⟩ := e3 pos cv hcv
    refine ⟨c, q1, ?_⟩
    have n2 : c ≠ a := fun z => by rw [z, h] at q2; exact hm.nc (Option.some.inj q2)
    rw [upd_ne n2]; exact q2
  cup := by rw [upd_ne hc.symm]; exact g.cup
  fc := g.fc
  fsub := fun b u e => by
    have : b ≠ a := fun z => by rw [z, hf] at e; cases e
    rw [upd_ne this]; exact g.fsub b u e
  f0 := g.f0
  fnew := g.fnew
  ftab := g.ftab
  pin := fun q hq => ⟨by rw [upd_ne (hp q hq)]; exact (g.pin q hq).1, (g.pin q hq).2⟩
theorem rel_mut (R : Rel C σ H s F) {i : Nat} {ds ds' : Ow} {ho' : HO} (e : s.r[i]? = some (.own ds)) (ha : σ.getD i none = some (.ref a)) (r : OwR C.K F ho' ds') :
    Rel C σ (upd H a ho') { s with r := s.r.set i (.own ds') } F := by
  obtain ⟨a', vs0, e1, e2, e3, e4, e5, e6, e7⟩ := R.sl i _ e
  rw [ha] at e1
  cases e1
  have hl : i < s.r.length := (List.getElem?_eq_some_iff.mp e).1
  refine ⟨gr_mut R.gr e2 e3 e4 e7 (owR_mu e6) e5, by simp [R.len], fun j k ej => ?_, fun j l b k k' h1 h2 o1 o2 h3 h4 => ?_⟩
  · by_cases hj : j = i
    · subst hj
      rw [List.getElem?_set_self hl] at ej
      cases ej
      exact ⟨a, ho', ha, e2, e3, e4, upd_same, r, e7⟩
    · rw [List.getElem?_set_ne (Ne.symm hj)] at ej
      have x := R.sl j k ej
      cases k with
      | own ds2 =>
        obtain ⟨b, ws, f1, f2, f3, f4, f5, f6, f7⟩ := x
        refine ⟨b, ws, f1, f2, f3, f4, ?_, f6, f7⟩
        rw [upd_ne (fun z => hj (R.dis j i b _ _ ej e rfl rfl f1 (by rw [ha, z])))]
        exact f5
      | un => exact x
      | val d => exact x
      | cup => exact x
      | fn _ => exact x
  · have back : ∀ {m : Nat} {k : Sl}, (s.r.set i (.own ds'))[m]? = some k → isOwn k = true → ∃ k0, s.r[m]? = some k0 ∧ isOwn k0 = true := fun {m k} em om => by
      by_cases z : m = i
      · subst z; exact ⟨_, e, rfl⟩
      · rw [List.getElem?_set_ne (Ne.symm z)] at em; exact ⟨k, em, om⟩
    obtain ⟨k1, g1, g2⟩ := back h1 o1
    obtain ⟨k2, g3, g4⟩ := back h2 o2
    exact R.dis j l b k1 k2 g1 g3 g2 g4 h3 h4
theorem rel_cup (R : Rel C σ H s F) (k : Int × Int) : Rel C σ (upd H C.c (cupO k)) { s with c := k } F := by
  have g := R.gr
  refine ⟨⟨fun b u e1 e2 e3 => by rw [upd_ne e2]; exact g.keep b u e1 e2 e3, fun b e => ?_, fun p hp => ?_, upd_same, g.fc, fun b u e => ?_, g.f0, g.fnew, g.ftab, fun q hq => ⟨by rw [upd_ne (g.pin q hq).2.2.1]; exact (g.pin q hq).1, (g.pin q hq).2⟩⟩, R.len, fun j k ej => ?_, R.dis⟩
  · by_cases hb : b = C.c
    · rw [hb, upd_same] at e; cases e
    · rw [upd_ne hb] at e; exact g.there b e
  · obtain ⟨ps, e1, e2, e3⟩ := g.tabs p hp
    have n1 : p.1 ≠ C.c := fun z => by rw [z, g.cup] at e1; cases e1
    refine ⟨ps, by rw [upd_ne n1]; exact e1, e2, fun pos cv hcv => ?_⟩
    obtain ⟨c, q1, q2⟩ := e3 pos cv hcv
    refine ⟨c, q1, ?_⟩
    have n2 : c ≠ C.c := fun z => by rw [z, g.cup] at q2; cases q2
    rw [upd_ne n2]; exact q2
  · have : b ≠ C.c := fun z => by rw [z, g.fc] at e; cases e
    rw [upd_ne this]; exact g.fsub b u e
  · have x := R.sl j k ej
    cases k with
    | own ds2 =>
      obtain ⟨b, ws, f1, f2, f3, f4, f5, f6, f7⟩ := x
      exact ⟨b, ws, f1, f2, f3, f4, by rw [upd_ne f2]; exact f5, f6, f7⟩
    | un => exact x
    | val d => exact x
    | cup => exact x
    | fn _ => exact x
/-- one more is held apart -/
theorem rel_pin {P : List (Addr × HO)} {o : HO} (R : Rel { C with P := P } σ H s F) (f : Fresh { C with P := P } σ s F a) (h : H a = some o) (nt : NoTbl o) : Rel { C with P := (a, o) :: P } σ H s F := by
  have g := R.gr
  refine ⟨⟨g.keep, g.there, g.tabs, g.cup, g.fc, g.fsub, g.f0, g.fnew, g.ftab, fun q hq => ?_⟩, R.len, fun i k e => ?_, R.dis⟩
  · rcases List.mem_cons.mp hq with z | z
    · subst z; exact ⟨h, f.f, f.c, nt, f.h0⟩
    · exact g.pin q z
  · have x := R.sl i k e
    cases k with
    | own ds =>
      obtain ⟨b, ws, f1, f2, f3, f4, f5, f6, f7⟩ := x
      refine ⟨b, ws, f1, f2, f3, f4, f5, f6, fun q hq => ?_⟩
      rcases List.mem_cons.mp hq with z | z
      · subst z
        exact fun y => f.o i _ e rfl (by rw [f1, ← y])
      · exact f7 q z
    | un => exact x
    | val d => exact x
    | cup => exact x
    | fn _ => exact x
theorem rel_unpin' {P : List (Addr × HO)} {o : HO} (R : Rel { C with P := (a, o) :: P } σ H s F) : Rel { C with P := P } σ H s F ∧ H a = some o ∧ F a = none ∧ a ≠ C.c ∧ C.H0 a = none ∧ ∀ i k, s.r[i]? = some k → isOwn k = true → σ.getD i none ≠ some (.ref a) := by
  have g := R.gr
  obtain ⟨p1, p2, p3, p4, p5⟩ := g.pin (a, o) List.mem_cons_self
  refine ⟨⟨⟨g.keep, g.there, g.tabs, g.cup, g.fc, g.fsub, g.f0, g.fnew, g.ftab, fun q hq => g.pin q (List.mem_cons_of_mem _ hq)⟩, R.len, fun i k e => ?_, R.dis⟩, p1, p2, p3, p5, fun i k e ho z => ?_⟩
  · have x := R.sl i k e
    cases k with
    | own ds =>
      obtain ⟨b, ws, f1, f2, f3, f4, f5, f6, f7⟩ := x
      exact ⟨b, ws, f1, f2, f3, f4, f5, f6, fun q hq => f7 q (List.mem_cons_of_mem _ hq)⟩
    | un => exact x
    | val d => exact x
    | cup => exact x
    | fn _ => exact x
  · have x := R.sl i k e
    cases k with
    | own ds =>
      obtain ⟨b, ws, f1, f2, f3, f4, f5, f6, f7⟩ := x
      rw [z] at f1
      cases f1
      exact f7 (a, o) List.mem_cons_self rfl
    | un => cases ho
    | val d => cases ho
    | cup => cases ho
    | fn _ => cases ho
end
/-! ### statements -/
inductive Fl where
  | nx
  | rt (d : D)
  | bk
  | ct
def PostS (C : Ct) (E : Ends) (r : Res Fl) : Prop :=
  match r with
  | .ok .nx s' => ∀ σ' H' F', Rel C σ' H' s' F' → E.nx σ' H'
  | .ok (.rt d) s' => ∀ v H' F', Gr C H' F' s'.c → Rp C.K F' v d → E.rt v H'
  | .ok .bk s' => ∀ σ' H' F', Rel C σ' H' s' F' → E.bk σ' H'
  | .ok .ct s' => ∀ σ' H' F', Rel C σ' H' s' F' → E.ct σ' H'
  | .exc n s' => ∀ H' F' A, Gr C H' F' s'.c → C.mg n = some (.ref A) → C.W (.ref A) none H'
  | .bad => False
def TDS (C : Ct) (m : M Fl) : TS := fun E σ H => ∃ s F, Rel C σ H s F ∧ PostS C E (m s)
def DS (X : Cx) (C : Ct) (st : Stmt) (m : M Fl) : Prop := ∀ G, PS X st (TDS { C with F0 := G } m)
def DSs (X : Cx) (C : Ct) (sts : List Stmt) (m : M Fl) : Prop := ∀ G, PSs X sts (TDS { C with F0 := G } m)
/-- the slots vs alone may differ -/
def Chg (vs : List Nat) (σ σ' : L2.St) : Prop := σ'.length = σ.length ∧ ∀ i, i ∉ vs → σ'[i]? = σ[i]?
/-- what is wanted behind a store -/
def PostU (C : Ct) (F : Hp) (σ : L2.St) (vs : List Nat) (r : Res Unit) (Q : L2.St → Hp → Prop) : Prop :=
  match r with
  | .ok _ s' => ∀ σ' H' F', Chg vs σ σ' → Rel C σ' H' s' F' → Sub F F' → Q σ' H'
  | .exc n s' => ∀ H' F' A, Gr C H' F' s'.c → C.mg n = some (.ref A) → C.W (.ref A) none H'
  | .bad => False
theorem chg_refl (vs : List Nat) (σ : L2.St) : Chg vs σ σ := ⟨rfl, fun _ _ => rfl⟩
theorem chg_set (i : Nat) (v : Option V) (σ : L2.St) : Chg [i] σ (σ.set i v) := ⟨by simp, fun j h => by
  rw [List.getElem?_set_ne]
  intro e
  exact h (by simp [e])⟩
theorem chg_trans {vs ws : List Nat} {σ σ1 σ2 : L2.St} (a : Chg vs σ σ1) (b : Chg ws σ1 σ2) : Chg (vs ++ ws) σ σ2 := ⟨b.1.trans a.1, fun i h => by
  rw [b.2 i (fun z => h (List.mem_append_right _ z)), a.2 i (fun z => h (List.mem_append_left _ z))]⟩
section
variable {X : Cx} {C : Ct} {σ : L2.St} {H : Hp} {s : S} {F : Hp} {E : Ends}
theorem ts_bnd {α β : Type} {rep : Hp → β → α → Prop} {m : M α} {k : α → M Fl} (R : Rel C σ H s F) (h : PostS C E (bnd m k s)) :
    TDG C rep m σ H fun v H' => ∃ d s' F', Rel C σ H' s' F' ∧ rep F' v d ∧ PostS C E (k d s') := by
  refine ⟨s, F, R, ?_⟩
  unfold bnd at h
  cases q : m s with
  | ok d s' =>
    rw [q] at h
    exact fun v H' F' a b c => ⟨d, s', F', a, c, h⟩
  | exc n s' => rw [q] at h; exact h
  | bad => rw [q] at h; exact h
theorem ts_bnd' {α β : Type} {rep : Hp → β → α → Prop} {m : M α} {k : α → M Fl} (h : TDS C (bnd m k) E σ H) :
    TDG C rep m σ H fun v H' => ∃ d s' F', Rel C σ H' s' F' ∧ rep F' v d ∧ PostS C E (k d s') := by
  obtain ⟨s, F, R, h⟩ := h
  exact ts_bnd R h
/-- first m1, then m2 -/
def sq (m1 m2 : M Fl) : M Fl := bnd m1 fun f => match f with
  | .nx => m2
  | f => ret f
theorem ds_cons {st : Stmt} {sts : List Stmt} {m1 m2 : M Fl} (h1 : DS X C st m1) (h2 : DSs X C sts m2) : DSs X C (st :: sts) (sq m1 m2) := fun G => by
  refine PSs.imp (pss_cons (h1 G) (h2 G)) fun E σ H ⟨s, F, R, h⟩ => ⟨s, F, R, ?_⟩
  unfold sq bnd at h
  cases q : m1 s with
  | exc n s' => rw [q] at h; exact h
  | bad => rw [q] at h; exact h
  | ok f s' =>
    rw [q] at h
    cases f with
    | nx => exact fun σ' H' F' R' => ⟨s', F', R', h⟩
    | rt d => exact h
    | bk => exact h
    | ct => exact h
theorem ds_one {st : Stmt} {m1 : M Fl} (h1 : DS X C st m1) : DSs X C [st] m1 := fun G => pss_one (h1 G)
theorem ds_nil : DSs X C [] (ret .nx) := fun G => PSs.imp pss_nil fun E σ H ⟨s, F, R, h⟩ => h σ H F R
/-- name = value -/
def put (i : Nat) (k : Sl) : M Fl := fun s => .ok .nx { s with r := s.r.set i k }
def sSet (i : Nat) (m : M D) : M Fl := bnd m fun d => put i (.val d)
theorem ds_set {i : Nat} {x : Str} {e : Expr} {m : M D} {pos' pos : Pos} (hN : X.N.Nodup) (hi : X.N[i]? = some x) (hx : Loc X.env.scope x) (he : DE X C e m) (hs : swapsWith e (some (.Name x pos')) pos.line X.env = pure false := by rfl) (hf : X.fn x = true ∨ X.env.scope.names.lookup x = some .local := by first | exact .inl rfl | exact .inr rfl | assumption) :
    DS X C (.Assign [.Name x pos'] e pos) (sSet i m) := fun G =>
  PS.imp (ps_set hN hi hx (he C.P G) hs hf) fun E σ H h => td_imp (ts_bnd' h) fun v H2 ⟨d, s2, F2, R2, dp, p⟩ => p _ _ F2 (rel_set R2 dp)
/-- name = a new list, to be changed in place -/
def PostF (C : Ct) (σ : L2.St) (F : Hp) (r : Res (List D)) (Q : VK) : Prop :=
  match r with
  | .ok ds s' => ∀ a vs H' F', Rel C σ H' s' F' → Sub F F' → Fresh C σ s' F' a → H' a = some (.lst vs) → RpAll C.K F' vs ds → Q (.ref a) H'
  | .exc n s' => ∀ H' F' A, Gr C H' F' s'.c → C.mg n = some (.ref A) → C.W (.ref A) none H'
  | .bad => False
def TDF (C : Ct) (m : M (List D)) : TE := fun σ H Q => ∃ s F, Rel C σ H s F ∧ PostF C σ F (m s) Q
/-- the expression e gives a new list -/
def DF (X : Cx) (C : Ct) (e : Expr) (m : M (List D)) : Prop := ∀ P G, PE X e (TDF { C with P := P, F0 := G } m)
def sOwn (i : Nat) (m : M (List D)) : M Fl := bnd m fun ds => put i (.own (.lst ds))
theorem tf_bndS {m : M (List D)} {k : List D → M Fl} (h : TDS C (bnd m k) E σ H) :
    TDF C m σ H fun v H' => ∃ a vs ds s' F', v = .ref a ∧ Rel C σ H' s' F' ∧ Fresh C σ s' F' a ∧ H' a = some (.lst vs) ∧ RpAll C.K F' vs ds ∧ PostS C E (k ds s') := by
  obtain ⟨s, F, R, h⟩ := h
  refine ⟨s, F, R, ?_⟩
  unfold bnd at h
  unfold PostF
  cases q : m s with
  | ok d s' =>
    rw [q] at h
    exact fun a vs H' F' R' _ f ha r => ⟨a, vs, d, s', F', rfl, R', f, ha, r, h⟩
  | exc n s' => rw [q] at h; exact h
  | bad => rw [q] at h; exact h
theorem ds_own {i : Nat} {x : Str} {e : Expr} {m : M (List D)} {pos' pos : Pos} (hN : X.N.Nodup) (hi : X.N[i]? = some x) (hx : Loc X.env.scope x) (he : DF X C e m) (hs : swapsWith e (some (.Name x pos')) pos.line X.env = pure false := by rfl) (hf : X.fn x = true ∨ X.env.scope.names.lookup x = some .local := by first | exact .inl rfl | exact .inr rfl | assumption) :
    DS X C (.Assign [.Name x pos'] e pos) (sOwn i m) := fun G => by
  refine PS.imp (ps_set hN hi hx (he C.P G) hs hf) fun E σ H h => ?_
  obtain ⟨s, F, R, h⟩ := tf_bndS h
  refine ⟨s, F, R, ?_⟩
  cases q : m s with
  | ok d s' =>
    rw [q] at h
    intro a vs H' F' R' e f ha r
    obtain ⟨a', vs', ds, s2, F2, e2, R2, f2, ha2, r2, p⟩ := h a vs H' F' R' e f ha r
    cases e2
    exact p _ _ F2 (rel_setOwn (ho := .lst vs') (ds := .lst ds) R2 f2 ha2 r2)
  | exc n s' => rw [q] at h; exact h
  | bad => rw [q] at h; exact h
/-- a new list that is not changed -/
def frz (m : M (List D)) : M D := bnd m fun ds => ret (.list ds)
theorem de_frz {e : Expr} {m : M (List D)} (h : DF X C e m) : DE X C e (frz m) := fun P G => by
  refine PE.imp (h P G) fun σ H Q ⟨s, F, R, p⟩ => ⟨s, F, R, ?_⟩
  unfold frz bnd at p
  cases q : m s with
  | ok ds s' =>
    rw [q] at p
    intro a vs H' F' R' e f ha r
    exact p _ H' (upd F' a (.lst vs)) (rel_frzF R' f ha (fun ps z => nomatch z)) (sub_trans e (sub_upd f.f)) (.lst upd_same (dps_sub (sub_upd f.f) r))
  | exc n s' => rw [q] at p; exact p
  | bad => rw [q] at p; exact p
end
end PL
set_option maxHeartbeats 2000000
namespace PL
open PySem PySem.Spec PyProof.Rows L2 LamX
/-! ### plain statements -/
section
variable {X : Cx} {C : Ct}
def sExp (m : M D) : M Fl := bnd m fun _ => ret .nx
theorem ds_exp {e : Expr} {m : M D} {pos : Pos} (he : DE X C e m) (hs : swapsWith e none pos.line X.env = pure false := by rfl) : DS X C (.Expr e pos) (sExp m) := fun G =>
  PS.imp (ps_expr (he C.P G) hs) fun E σ H h => td_imp (ts_bnd' h) fun v H2 ⟨d, s2, F2, R2, dp, p⟩ => p _ _ F2 R2
def sRet (m : M D) : M Fl := bnd m fun d => ret (.rt d)
theorem ds_ret {e : Expr} {m : M D} {pos : Pos} (he : DE X C e m) : DS X C (.Return (some e) pos) (sRet m) := fun G =>
  PS.imp (ps_ret (he C.P G)) fun E σ H h => td_imp (ts_bnd' h) fun v H2 ⟨d, s2, F2, R2, dp, p⟩ => p _ _ F2 R2.gr dp
theorem ds_retN {pos : Pos} : DS X C (.Return none pos) (ret (.rt .none)) := fun G =>
  PS.imp ps_retN fun E σ H ⟨s, F, R, h⟩ => h .non H F R.gr .non
theorem ds_pass {pos : Pos} : DS X C (.Pass pos) (ret .nx) := fun G => PS.imp ps_pass fun E σ H ⟨s, F, R, h⟩ => h σ H F R
theorem ds_break {pos : Pos} : DS X C (.Break pos) (ret .bk) := fun G => PS.imp ps_break fun E σ H ⟨s, F, R, h⟩ => h σ H F R
theorem ds_cont {pos : Pos} : DS X C (.Continue pos) (ret .ct) := fun G => PS.imp ps_continue fun E σ H ⟨s, F, R, h⟩ => h σ H F R
def sIf (mt : M Bool) (a b : M Fl) : M Fl := bnd mt fun k => if k = true then a else b
theorem ds_if {c : Expr} {a b : List Stmt} {mt : M Bool} {ma mb : M Fl} {pos : Pos} (hc : DT X C c mt) (ha : DSs X C a ma) (hb : DSs X C b mb) : DS X C (.If c a b pos) (sIf mt ma mb) := fun G => by
  refine PS.imp (ps_if (hc C.P G) (ha G) (hb G)) fun E σ H h => td_imp (ts_bnd' h) fun v H2 ⟨d, s2, F2, R2, dp, p⟩ => ?_
  cases dp
  cases v with
  | true => exact ⟨s2, F2, R2, p⟩
  | false => exact ⟨s2, F2, R2, p⟩
/-- raise X('..') -/
theorem ds_raise {n : Str} {A : Addr} {e : Expr} {pos : Pos} (hc : X.calm = true) (tk : L2N.Takes X (fun cls d _ H => C.W cls d H)) (hA : C.mg n = some (.ref A)) (he : L2N.PMk X e (fun _ H Q => Q (.ref A) none H)) : DS X C (.Raise (some e) none pos) (exc n) := fun G =>
  PS.imp (L2N.ps_raise hc tk he) fun E σ H ⟨s, F, R, h⟩ => h H F A R.gr hA
/-! ### targets -/
def TDGt (C : Ct) (vs : List Nat) (asg : D → M Unit) : TG := fun v σ H Q => ∃ s F d, Rel C σ H s F ∧ Rp C.K F v d ∧ PostU C F σ vs (asg d s) Q
def DG (X : Cx) (C : Ct) (tg : Expr) (vs : List Nat) (asg : D → M Unit) : Prop := ∀ P G, PG X tg (TDGt { C with P := P, F0 := G } vs asg)
def TDGs (C : Ct) (ws : List Nat) (asg : List D → M Unit) : TGs := fun vs σ H Q => ∃ s F ds, Rel C σ H s F ∧ RpAll C.K F vs ds ∧ PostU C F σ ws (asg ds s) Q
def DGs (X : Cx) (C : Ct) (tgs : List Expr) (ws : List Nat) (asg : List D → M Unit) : Prop := ∀ P G, PGs X tgs (TDGs { C with P := P, F0 := G } ws asg)
theorem PG.imp {e : Expr} {t t' : TG} (h : PG X e t) (i : ∀ v σ H Q, t' v σ H Q → t v σ H Q) : PG X e t' := ⟨fun pins s σ H v u Q I r q => h.run pins s σ H v u Q I r (i v σ H Q q)⟩
theorem PGs.imp {e : List Expr} {t t' : TGs} (h : PGs X e t) (i : ∀ v σ H Q, t' v σ H Q → t v σ H Q) : PGs X e t' := ⟨fun pins s σ H v u Q I r q => h.run pins s σ H v u Q I r (i v σ H Q q)⟩
def gN (i : Nat) : D → M Unit := fun d s => .ok () { s with r := s.r.set i (.val d) }
theorem dg_name {i : Nat} {x : Str} {pos : Pos} (hN : X.N.Nodup) (hi : X.N[i]? = some x) (hx : Loc X.env.scope x) (hf : X.fn x = true ∨ X.env.scope.names.lookup x = some .local := by first | exact .inl rfl | exact .inr rfl | assumption) : DG X C (.Name x pos) [i] (gN i) := fun P G =>
  PG.imp (pg_name hN hi hx hf) fun v σ H Q ⟨s, F, d, R, dp, h⟩ => h _ _ F (chg_set i _ σ) (rel_set R dp) (sub_refl F)
def gsNil : List D → M Unit
  | [] => ret ()
  | _ => bad
def gsCons (a : D → M Unit) (r : List D → M Unit) : List D → M Unit
  | d :: ds => bnd (a d) fun _ => r ds
  | [] => bad
def gT (r : List D → M Unit) : D → M Unit
  | .tuple ds => r ds
  | _ => bad
theorem dgs_nil : DGs X C [] [] gsNil := fun P G => PGs.imp pgs_nil fun v σ H Q ⟨s, F, ds, R, dp, h⟩ => by
  cases dp with
  | nil => exact ⟨rfl, h _ _ F (chg_refl _ _) R (sub_refl F)⟩
  | cons _ _ => exact h.elim
theorem dgs_cons {e : Expr} {es : List Expr} {v1 v2 : List Nat} {a : D → M Unit} {r : List D → M Unit} (h1 : DG X C e v1 a) (h2 : DGs X C es v2 r) (hs : (assignEach (e :: es) X.env).map (·.2) = assign e X.env :: (assignEach es X.env).map (·.2) := by rfl) : DGs X C (e :: es) (v1 ++ v2) (gsCons a r) := fun P G => by
  refine PGs.imp (pgs_cons (h1 P G) (h2 P G) hs) fun vs σ H Q ⟨s, F, ds, R, dp, h⟩ => ?_
  cases dp with
  | nil => exact h.elim
  | @cons v vs d ds q qs =>
    refine ⟨v, vs, rfl, s, F, d, R, q, ?_⟩
    have h' : PostU { C with P := P, F0 := G } F σ (v1 ++ v2) (bnd (a d) (fun _ => r ds) s) Q := h
    unfold bnd at h'
    cases e : a d s with
    | exc n s' => rw [e] at h'; exact h'
    | bad => rw [e] at h'; exact h'
    | ok u s' =>
      rw [e] at h'
      intro σ' H' F' cg R' e'
      refine ⟨s', F', ds, R', dps_sub e' qs, ?_⟩
      cases e2 : r ds s' with
      | exc n s2 => simp only [e2] at h'; exact h'
      | bad => simp only [e2] at h'; exact h'
      | ok u s2 =>
        simp only [e2] at h'
        exact fun σ2 H2 F2 cg2 R2 e3 => h' σ2 H2 F2 (chg_trans cg cg2) R2 (sub_trans e' e3)
/-- (a, b, ..) = a tuple; n: how many -/
def gTn (n : Nat) (r : List D → M Unit) : D → M Unit
  | .tuple ds => if ds.length = n then r ds else bad
  | _ => bad
theorem dg_tup {es : List Expr} {k n : Nat} {pos : Pos} {vs : List Nat} {r : List D → M Unit} (hK : C.K = X.K) (hc : X.calm = true) (h : DGs X C es vs r) (hn : (assignEach es X.env).length = n := by rfl) (hst : (assignEach es X.env).findIdx? (·.1) = none := by rfl) : DG X C (.Tuple es k pos) vs (gTn n r) := fun P G => by
  refine PG.imp (pg_tup hc (h P G) hn hst) fun v σ H Q ⟨s, F, d, R, dp, h⟩ => ?_
  cases dp with
  | @tup a xs ds sx ax =>
    simp only [gTn] at h
    split at h
    · rename_i hz
      replace hK : C.K = X.K := hK
      refine ⟨a, xs, rfl, by rw [← hK]; exact SqT.of (R.gr.fsub _ _ sx), by rw [dps_len ax]; exact hz, s, F, ds, R, ax, h⟩
    · exact h.elim
  | _ => exact h.elim
def sAsg (m : M D) (a : D → M Unit) : M Fl := bnd m fun d => bnd (a d) fun _ => ret .nx
theorem ds_asg {tg e : Expr} {m : M D} {vs : List Nat} {a : D → M Unit} {pos : Pos} (he : DE X C e m) (hg : DG X C tg vs a) (hs : swapsWithSole [tg] e pos.line X.env = pure false := by rfl) (hw : swappedStores [tg] e X.env = pure none := by rfl)
    (h1 : (assignEach [tg] X.env).map (·.2) = [assign tg X.env] := by rfl) : DS X C (.Assign [tg] e pos) (sAsg m a) := fun G => by
  refine PS.imp (ps_asg (he C.P G) (hg C.P G) hs hw h1) fun E σ H h => td_imp (ts_bnd' h) fun v H2 ⟨d, s2, F2, R2, dp, p⟩ => ⟨s2, F2, d, R2, dp, ?_⟩
  unfold bnd at p
  cases q : a d s2 with
  | exc n s' => rw [q] at p; exact p
  | bad => rw [q] at p; exact p
  | ok u s' => rw [q] at p; exact fun σ' H' F' _ R' _ => p σ' H' F' R'
end
/-! ### what is walked -/
def Yl (K : PySem.W.Frag) (H2 : Hp) (x : V) (H3 F2 : Hp) (d : D) : Prop := (H3 = H2 ∧ Rp K F2 x d) ∨ ∃ T o, NoTbl o ∧ H2 T = none ∧ H3 = upd H2 T o ∧ Rp K (upd F2 T o) x d
structure Gives (C : Ct) (J : It) (F' : Hp) (ds : List D) : Prop where
  out : ∃ (G : Hp → Prop) (Y : Nat → Hp → V → Hp → Prop), Walk J ds.length G Y ∧ (∀ H2 F2, Sub F' F2 → Sub F2 H2 → G H2) ∧
    ∀ i H2 x H3 F2, i < ds.length → Sub F' F2 → Sub F2 H2 → Y i H2 x H3 → ∃ d, ds[i]? = some d ∧ Yl C.K H2 x H3 F2 d
def PostI (C : Ct) (σ : L2.St) (F : Hp) (r : Res (List D)) (R : It → Hp → Prop) : Prop :=
  match r with
  | .ok ds s' => ∀ J H' F', Rel C σ H' s' F' → Sub F F' → Gives C J F' ds → R J H'
  | .exc n s' => ∀ H' F' A, Gr C H' F' s'.c → C.mg n = some (.ref A) → C.W (.ref A) none H'
  | .bad => False
def TDI (C : Ct) (m : M (List D)) : TI := fun σ H R => ∃ s F, Rel C σ H s F ∧ PostI C σ F (m s) R
def DI (X : Cx) (C : Ct) (tg iter : Expr) (m : M (List D)) : Prop := ∀ P G, PI X tg iter (TDI { C with P := P, F0 := G } m)
section
variable {X : Cx} {C : Ct}
theorem PI.imp {tg iter : Expr} {t t' : TI} (h : PI X tg iter t) (i : ∀ σ H R, t' σ H R → t σ H R) : PI X tg iter t' := ⟨fun pins s σ H R I q => h.run pins s σ H R I (i σ H R q)⟩
def itD : D → M (List D)
  | .list ds => ret ds
  | .tuple ds => ret ds
  | _ => bad
theorem gives_list {F' : Hp} {a : Addr} {vs : List V} {ds : List D} (sx : F' a = some (.lst vs)) (ax : RpAll C.K F' vs ds) : Gives C (Itl C.K a) F' ds :=
  ⟨_, _, (dps_len ax) ▸ walk_list (K := C.K) (a := a) (xs := vs), fun H2 F2 e1 e2 => SqL.of (e2 _ _ (e1 _ _ sx)), fun i H2 x H3 F2 _ e1 e2 y => by
    obtain ⟨d, e, q⟩ := dps_get' (dps_sub e1 ax) y.2
    exact ⟨d, e, .inl ⟨y.1, q⟩⟩⟩
theorem gives_tup {F' : Hp} {a : Addr} {vs : List V} {ds : List D} (sx : SqT C.K F' a vs) (ax : RpAll C.K F' vs ds) : Gives C (Itt C.K a) F' ds :=
  ⟨_, _, (dps_len ax) ▸ walk_tup (K := C.K) (a := a) (xs := vs), fun H2 F2 e1 e2 => sqT_sub e2 (sqT_sub e1 sx), fun i H2 x H3 F2 _ e1 e2 y => by
    obtain ⟨d, e, q⟩ := dps_get' (dps_sub e1 ax) y.2
    exact ⟨d, e, .inl ⟨y.1, q⟩⟩⟩
theorem ti_bnd {α β : Type} {rep : Hp → β → α → Prop} {m : M α} {k : α → M (List D)} {σ : L2.St} {H : Hp} {R : It → Hp → Prop} (h : TDI C (bnd m k) σ H R) :
    TDG C rep m σ H fun v H' => ∃ d s' F', Rel C σ H' s' F' ∧ rep F' v d ∧ PostI C σ F' (k d s') R := by
  obtain ⟨s, F, Rl, h⟩ := h
  refine ⟨s, F, Rl, ?_⟩
  unfold bnd at h
  cases q : m s with
  | exc n s' => rw [q] at h; exact h
  | bad => rw [q] at h; exact h
  | ok d s' =>
    rw [q] at h
    intro v H' F' R' e r
    refine ⟨d, s', F', R', r, ?_⟩
    dsimp only at h
    cases q2 : k d s' with
    | exc n s2 => rw [q2] at h; exact h
    | bad => rw [q2] at h; exact h
    | ok ds s2 => rw [q2] at h; exact fun J H2 F2 R2 e2 g => h J H2 F2 R2 (sub_trans e e2) g
theorem di_seq {tg e : Expr} {m : M D} (hK : C.K = X.K) (he : DE X C e m) : DI X C tg e (bnd m itD) := fun P G => by
  refine ⟨fun pins s σ H R I h => ?_⟩
  obtain ⟨s0, F0, R0, h0⟩ := id h
  replace hK : C.K = X.K := hK
  cases q : m s0 with
  | exc n s' =>
    refine (pi_list (tg := tg) (he P G)).run pins s σ H R I ⟨s0, F0, R0, ?_⟩
    unfold bnd at h0
    rw [q] at h0 ⊢
    exact h0
  | bad =>
    unfold bnd at h0
    rw [q] at h0
    exact h0.elim
  | ok d s' =>
    have h1 : PostI { C with P := P, F0 := G } σ F0 (itD d s') R := by
      unfold bnd at h0
      rw [q] at h0
      exact h0
    cases d with
    | list ds =>
      refine (pi_list (tg := tg) (he P G)).run pins s σ H R I ⟨s0, F0, R0, ?_⟩
      rw [q]
      intro v H' F' R' e r
      cases r with
      | @lst a vs ds sx ax =>
        refine ⟨a, rfl, ⟨vs, SqL.of (R'.gr.fsub _ _ sx)⟩, ?_⟩
        have g := gives_list (C := { C with P := P, F0 := G }) sx ax
        rw [← hK]
        exact h1 _ H' F' R' e g
    | tuple ds =>
      refine (pi_tup (tg := tg) (he P G)).run pins s σ H R I ⟨s0, F0, R0, ?_⟩
      rw [q]
      intro v H' F' R' e r
      cases r with
      | @tup a vs ds sx ax =>
        refine ⟨a, rfl, ⟨vs, by rw [← hK]; exact SqT.of (R'.gr.fsub _ _ sx)⟩, ?_⟩
        have g := gives_tup (C := { C with P := P, F0 := G }) (SqT.of sx) ax
        rw [← hK]
        exact h1 _ H' F' R' e g
    | _ => exact h1.elim
def rngL (lo : Int) (n : Nat) : List D := (List.range n).map fun i => .int (lo + (i : Nat))
theorem gives_rng {F' : Hp} {lo : Int} {n : Nat} : Gives C (Itr lo n) F' (rngL lo n) := by
  have hl : (rngL lo n).length = n := by simp [rngL]
  refine ⟨_, _, by rw [hl]; exact walk_range, fun _ _ _ _ => trivial, fun i H2 x H3 F2 hi e1 e2 y => ?_⟩
  rw [hl] at hi
  obtain ⟨y1, y2⟩ := y
  exact ⟨.int (lo + (i : Nat)), by simp [rngL, hi], .inl ⟨y1, by rw [y2]; exact .int _⟩⟩
def rng1 : List D → M (List D)
  | [.int j] => if -(2 ^ 62) ≤ j ∧ j < 2 ^ 62 then ret (rngL 0 j.toNat) else bad
  | _ => bad
def rng2 : List D → M (List D)
  | [.int i, .int j] => if -(2 ^ 62) ≤ i ∧ i < 2 ^ 62 ∧ -(2 ^ 62) ≤ j ∧ j < 2 ^ 62 then ret (rngL i (j - i).toNat) else bad
  | _ => bad
theorem di_range1 {tg a : Expr} {m : M (List D)} {p pos : Pos} (hg : Gl X "range") (hm : X.mg "range" = none) (ha : DA X C [a] m) (hs : starEach [a] X.env = [(false, eval a X.env)] := by rfl) : DI X C tg (.Call (.Name "range" p) [a] [] pos) (bnd m rng1) := fun P G => by
  refine PI.imp (pi_range1 hg hm (ha P G) hs) fun σ H R h => td_imp (ti_bnd h) fun vs H2 ⟨ds, s2, F2, R2, dp, p⟩ => ?_
  unfold rng1 at p
  split at p
  · split at p
    · rename_i hz
      obtain ⟨v, e, q⟩ := dps1 dp
      subst e
      cases q
      exact ⟨_, rfl, hz.1, hz.2, p _ _ _ R2 (sub_refl F2) gives_rng⟩
    · exact p.elim
  · exact p.elim
theorem di_range2 {tg a b : Expr} {m : M (List D)} {p pos : Pos} (hg : Gl X "range") (hm : X.mg "range" = none) (ha : DA X C [a, b] m) (hs : starEach [a, b] X.env = [(false, eval a X.env), (false, eval b X.env)] := by rfl) (hs2 : starEach [b] X.env = [(false, eval b X.env)] := by rfl) : DI X C tg (.Call (.Name "range" p) [a, b] [] pos) (bnd m rng2) := fun P G => by
  refine PI.imp (pi_range2 hg hm (ha P G) hs hs2) fun σ H R h => td_imp (ti_bnd h) fun vs H2 ⟨ds, s2, F2, R2, dp, p⟩ => ?_
  unfold rng2 at p
  split at p
  · split at p
    · rename_i hz
      obtain ⟨v, w, e, q, q'⟩ := dps2 dp
      subst e
      cases q
      cases q'
      exact ⟨_, _, rfl, hz, p _ _ _ R2 (sub_refl F2) gives_rng⟩
    · exact p.elim
  · exact p.elim
def pairs : List D → List D → List D
  | x :: xs, y :: ys => .tuple [x, y] :: pairs xs ys
  | _, _ => []
theorem pairs_len : ∀ xs ys : List D, (pairs xs ys).length = min xs.length ys.length
  | [], _ => by simp [pairs]
  | _ :: _, [] => by simp [pairs]
  | x :: xs, y :: ys => by simp [pairs, pairs_len xs ys]
theorem pairs_get : ∀ {xs ys : List D} {i : Nat} {x y : D}, xs[i]? = some x → ys[i]? = some y → (pairs xs ys)[i]? = some (.tuple [x, y])
  | [], _, _, _, _, h, _ => by simp at h
  | _ :: _, [], _, _, _, _, h => by simp at h
  | a :: xs, b :: ys, 0, x, y, h1, h2 => by simp at h1 h2; subst h1; subst h2; rfl
  | a :: xs, b :: ys, i + 1, x, y, h1, h2 => by
    show (pairs xs ys)[i]? = _
    exact pairs_get (by simpa using h1) (by simpa using h2)
theorem yl_pair {F2 H2 H3 : Hp} {v x y : V} {d e : D} {T : Addr} (e2 : Sub F2 H2) (hT : H2 T = none) (hv : v = .ref T) (h3 : H3 = upd H2 T (.tup [x, y])) (rx : Rp C.K F2 x d) (ry : Rp C.K F2 y e) : Yl C.K H2 v H3 F2 (.tuple [d, e]) := by
  have hF := sub_none e2 hT
  refine .inr ⟨T, .tup [x, y], fun ps z => (nomatch z), hT, h3, ?_⟩
  rw [hv]
  exact .tup upd_same (.cons (dp_sub (sub_upd hF) rx) (.cons (dp_sub (sub_upd hF) ry) .nil))
def zipD : List D → M (List D)
  | [.list xs, .list ys] => ret (pairs xs ys)
  | [.tuple xs, .tuple ys] => ret (pairs xs ys)
  | _ => bad
theorem di_zip {e e2 : Expr} {elts : List Expr} {kk : Nat} {m : M (List D)} {p pos tpos : Pos} (hK : C.K = X.K) (hg : Gl X "zip") (hm : X.mg "zip" = none) (ha : DA X C [e, e2] m)
    (hs : starEach [e, e2] X.env = (false, eval e X.env) :: starEach [e2] X.env := by rfl) (hs2 : (backTo pos (starEach [e2] X.env)).any (·.1) = false := by rfl) : DI X C (.Tuple elts kk tpos) (.Call (.Name "zip" p) [e, e2] [] pos) (bnd m zipD) := fun P G => by
  refine PI.imp (RZ.pi_zipA hg hm (ha P G) hs hs2) fun σ H R h => td_imp (ti_bnd h) fun vs H2 ⟨ds, s2, F2, R2, dp, p⟩ => ?_
  replace hK : C.K = X.K := hK
  unfold zipD at p
  split at p
  · rename_i xs ys
    obtain ⟨v, w, e, q, q'⟩ := dps2 dp
    subst e
    cases q with
    | @lst a vx _ sx ax =>
      cases q' with
      | @lst b vy _ sy ay =>
        refine ⟨a, b, vx, vy, rfl, .inl ⟨SqL.of (R2.gr.fsub _ _ sx), SqL.of (R2.gr.fsub _ _ sy), ?_⟩⟩
        refine p _ _ _ R2 (sub_refl F2) ⟨_, _, walk_zip (by rw [pairs_len, dps_len ax, dps_len ay]), fun H3 F3 e1 e2 => ⟨SqL.of (e2 _ _ (e1 _ _ sx)), SqL.of (e2 _ _ (e1 _ _ sy))⟩, fun i H3 x H4 F3 hi e1 e2 y => ?_⟩
        obtain ⟨T, x1, y1, e3, e4, e5, e6, e7⟩ := y
        obtain ⟨d1, g1, g2⟩ := dps_get' (dps_sub e1 ax) e6
        obtain ⟨d2, g3, g4⟩ := dps_get' (dps_sub e1 ay) e7
        exact ⟨_, pairs_get g1 g3, yl_pair e2 e4 e3 e5 g2 g4⟩
  · rename_i xs ys
    obtain ⟨v, w, e, q, q'⟩ := dps2 dp
    subst e
    cases q with
    | @tup a vx _ sx ax =>
      cases q' with
      | @tup b vy _ sy ay =>
        refine ⟨a, b, vx, vy, rfl, .inr ⟨SqT.of (R2.gr.fsub _ _ sx), SqT.of (R2.gr.fsub _ _ sy), ?_⟩⟩
        have wk : Walk (RZ.ItzT X.K a b) (pairs xs ys).length (fun H => SqT X.K H a vx ∧ SqT X.K H b vy) (YPair (fun i => vx[i]?) (fun i => vy[i]?)) := by
          rw [pairs_len, ← dps_len ax, ← dps_len ay]
          refine ⟨fun i _ hi q => ?_, fun _ q => ⟨vx, vy, q.1, q.2, by omega⟩, fun i H v H' _ q y => ?_⟩
          · have h1 : i < vx.length := by omega
            have h2 : i < vy.length := by omega
            exact ⟨vx, vy, vx[i], vy[i], q.1, q.2, by simp [h1], by simp [h2]⟩
          · obtain ⟨T, x, z, h1, h2, h3, h4, h5⟩ := y
            exact ⟨T, x, z, h1, h2, h3, h4 vx q.1, h5 vy q.2⟩
        refine p _ _ _ R2 (sub_refl F2) ⟨_, _, wk, fun H3 F3 e1 e2 => ?_, fun i H3 x H4 F3 hi e1 e2 y => ?_⟩
        · exact ⟨SqT.of (e2 _ _ (e1 _ _ sx)), SqT.of (e2 _ _ (e1 _ _ sy))⟩
        · obtain ⟨T, x1, y1, e3, e4, e5, e6, e7⟩ := y
          obtain ⟨d1, g1, g2⟩ := dps_get' (dps_sub e1 ax) e6
          obtain ⟨d2, g3, g4⟩ := dps_get' (dps_sub e1 ay) e7
          exact ⟨_, pairs_get g1 g3, yl_pair e2 e4 e3 e5 g2 g4⟩
  · exact p.elim
end
end PL
set_option maxHeartbeats 2000000
namespace PL
open PySem PySem.Spec PyProof.Rows L2 LamX
section
variable {X : Cx} {C : Ct}
/-! ### for -/
def forL (asg : D → M Unit) (body : M Fl) : List D → M Fl
  | [] => ret .nx
  | x :: r => bnd (asg x) fun _ => bnd body fun f => match f with
    | .nx => forL asg body r
    | .ct => forL asg body r
    | .bk => ret .nx
    | .rt d => ret (.rt d)
def sFor (src : M (List D)) (asg : D → M Unit) (body : M Fl) : M Fl := bnd src (forL asg body)
theorem tsi_bnd {m : M (List D)} {k : List D → M Fl} {σ : L2.St} {H : Hp} {E : Ends} (h : TDS C (bnd m k) E σ H) :
    TDI C m σ H fun J H' => ∃ ds s' F', Rel C σ H' s' F' ∧ Gives C J F' ds ∧ PostS C E (k ds s') := by
  obtain ⟨s, F, R, h⟩ := h
  refine ⟨s, F, R, ?_⟩
  unfold bnd at h
  cases q : m s with
  | exc n s' => rw [q] at h; exact h
  | bad => rw [q] at h; exact h
  | ok ds s' => rw [q] at h; exact fun J H' F' R' _ g => ⟨ds, s', F', R', g, h⟩
/-- behind a turn's item -/
theorem rel_yl {σ : L2.St} {H H' : Hp} {s : S} {F : Hp} {x : V} {d : D} (R : Rel C σ H s F) (y : Yl C.K H x H' F d) : ∃ F', Sub F F' ∧ Rel C σ H' s F' ∧ Rp C.K F' x d := by
  rcases y with ⟨e, r⟩ | ⟨T, o, nt, hT, e, r⟩
  · subst e; exact ⟨F, sub_refl F, R, r⟩
  · subst e; exact ⟨_, sub_upd (R.gr.fnone hT), rel_new R hT nt, r⟩
theorem postS_imp {E E' : Ends} {r : Res Fl} (h : PostS C E r) (h1 : ∀ σ H, E.nx σ H → E'.nx σ H) (h2 : ∀ v H, E.rt v H → E'.rt v H) (h3 : ∀ σ H, E.bk σ H → E'.bk σ H) (h4 : ∀ σ H, E.ct σ H → E'.ct σ H) : PostS C E' r := by
  cases r with
  | exc n s => exact h
  | bad => exact h
  | ok f s =>
    cases f with
    | nx => exact fun σ' H' F' R => h1 _ _ (h σ' H' F' R)
    | rt d => exact fun v H' F' g r => h2 _ _ (h v H' F' g r)
    | bk => exact fun σ' H' F' R => h3 _ _ (h σ' H' F' R)
    | ct => exact fun σ' H' F' R => h4 _ _ (h σ' H' F' R)
/-- the entry's frozen part may be taken later -/
theorem gr_at {H F : Hp} {k : Int × Int} {F2 : Hp} (g : Gr { C with F0 := F2 } H F k) (h : Sub C.F0 F2) (hn : ∀ a, C.F0 a = none → C.H0 a ≠ none → F2 a = none) : Gr C H F k :=
  ⟨g.keep, g.there, g.tabs, g.cup, g.fc, g.fsub, sub_trans h g.f0, fun a e1 e2 => g.fnew a (hn a e1 e2) e2, g.ftab, g.pin⟩
theorem rel_at {σ : L2.St} {H F : Hp} {s : S} {F2 : Hp} (R : Rel { C with F0 := F2 } σ H s F) (h : Sub C.F0 F2) (hn : ∀ a, C.F0 a = none → C.H0 a ≠ none → F2 a = none) : Rel C σ H s F :=
  ⟨gr_at R.gr h hn, R.len, fun i k e => by
    have x := R.sl i k e
    cases k <;> exact x, R.dis⟩
theorem rel_to {σ : L2.St} {H F : Hp} {s : S} {F2 : Hp} (R : Rel C σ H s F) (h : Sub F2 F) (hn : ∀ a, F2 a = none → C.H0 a ≠ none → F a = none) : Rel { C with F0 := F2 } σ H s F :=
  ⟨⟨R.gr.keep, R.gr.there, R.gr.tabs, R.gr.cup, R.gr.fc, R.gr.fsub, h, hn, R.gr.ftab, R.gr.pin⟩, R.len, fun i k e => by
    have x := R.sl i k e
    cases k <;> exact x, R.dis⟩
theorem dss_any {sts : List Stmt} {m : M Fl} (h : DSs X C sts m) : PSs X sts (fun E σ H => ∃ G, TDS { C with F0 := G } m E σ H) := ⟨fun pins s σ H D I ⟨G, q⟩ => (h G).run pins s σ H D I q⟩
theorem ds_for {tg iter : Expr} {body : List Stmt} {m : M (List D)} {vs : List Nat} {asg : D → M Unit} {mb : M Fl} {pos : Pos} (hp : PassesOwn (model X.prog X.w) X.A X.env X.xe) (hc : X.calm = true) (hi : DI X C tg iter m) (hg : DG X C tg vs asg) (hb : DSs X C body mb)
    (hs : ∀ x, foldedSetIterable iter X.env x = pure x := by intro _; rfl) : DS X C (.For tg iter body [] pos) (sFor m asg mb) := fun G0 => by
  refine PS.imp (ps_for hp hc (hi C.P G0) (hg C.P G0) (dss_any hb) hs) fun E σ H h => ?_
  generalize hC : ({ C with F0 := G0 } : Ct) = C1 at h
  have hCC : ∀ G, ({ C with F0 := G } : Ct) = { C1 with F0 := G } := fun G => by rw [← hC]
  have hCP : ({ C with P := C.P, F0 := G0 } : Ct) = C1 := hC
  simp only [hCC]
  clear hCC hCP hb hi hg
  obtain ⟨s0, F0, R0, h0⟩ := tsi_bnd h
  refine ⟨s0, F0, R0, ?_⟩
  cases q : m s0 with
  | exc n s' => rw [q] at h0; exact h0
  | bad => rw [q] at h0; exact h0
  | ok ds0 s' =>
    rw [q] at h0
    intro J H1 F1 R1 e1 g1
    obtain ⟨ds, s2, F2, R2, ⟨G, Y, W, hG, hY⟩, p⟩ := h0 J H1 F1 R1 e1 g1
    refine for_it (g := TDGt C1 vs asg) (tb := fun E σ H => ∃ G, TDS { C1 with F0 := G } mb E σ H) (D := E) W (fun i σ' H' => ∃ s F, Rel { C1 with F0 := F2 } σ' H' s F ∧ PostS C1 E (forL asg mb (ds.drop i) s)) ⟨s2, F2, rel_to R2 (sub_refl F2) (fun a e _ => e), p⟩ (fun i σ' H' _ ⟨s, F, R, _⟩ => hG H' F R.gr.f0 R.gr.fsub) ?_ ?_
    · intro i x σ3 H3 H4 hi ⟨s3, F3, R3, p3⟩ y
      obtain ⟨d, ed, yl⟩ := hY i H3 x H4 F3 hi R3.gr.f0 R3.gr.fsub y
      obtain ⟨F4, e4, R4, r4⟩ := rel_yl (C := { C1 with F0 := F2 }) R3 yl
      have hd : ds.drop i = d :: ds.drop (i + 1) := by
        rw [List.drop_eq_getElem_cons hi]
        rw [List.getElem?_eq_getElem hi] at ed
        rw [Option.some.inj ed]
      rw [hd] at p3
      have hR2 := R2.gr.fnew
      have up : ∀ {σ' : L2.St} {H' F' : Hp} {s' : S}, Rel { C1 with F0 := F2 } σ' H' s' F' → Rel C1 σ' H' s' F' := fun R => rel_at R R2.gr.f0 hR2
      have p4 : PostS C1 E (bnd (asg d) (fun _ => bnd mb fun f => match f with
        | .nx => forL asg mb (ds.drop (i + 1))
        | .ct => forL asg mb (ds.drop (i + 1))
        | .bk => ret .nx
        | .rt d => ret (.rt d)) s3) := p3
      refine ⟨s3, F4, d, up R4, r4, ?_⟩
      unfold bnd at p4
      cases q2 : asg d s3 with
      | exc n s' => rw [q2] at p4; exact p4
      | bad => rw [q2] at p4; exact p4
      | ok u s4 =>
        rw [q2] at p4
        dsimp only at p4
        intro σ5 H5 F5 _ R5 e5
        refine ⟨F2, s4, F5, rel_to R5 (sub_trans R4.gr.f0 e5) (fun a ea eh => ?_), ?_⟩
        · exact R5.gr.fnew a (sub_none R2.gr.f0 ea) eh
        · cases q3 : mb s4 with
          | exc n s' => 
            rw [q3] at p4
            exact fun H' F' A g => p4 H' F' A (gr_at g R2.gr.f0 hR2)
          | bad => rw [q3] at p4; exact p4
          | ok f s5 =>
            rw [q3] at p4
            cases f with
            | nx => exact fun σ' H' F' R => ⟨s5, F', R, p4⟩
            | ct => exact fun σ' H' F' R => ⟨s5, F', R, p4⟩
            | bk => exact fun σ' H' F' R => p4 σ' H' F' (up R)
            | rt d => exact fun v H' F' g r => p4 v H' F' (gr_at g R2.gr.f0 hR2) r
    · intro σ3 H3 ⟨s3, F3, R3, p3⟩
      rw [List.drop_length] at p3
      exact p3 σ3 H3 F3 (rel_at R3 R2.gr.f0 R2.gr.fnew)
end
end PL
set_option maxHeartbeats 2000000
namespace PL
open PySem PySem.Spec PyProof.Rows L2 LamX
section
variable {X : Cx} {C : Ct}
/-! ### while -/
def whL (mt : M Bool) (mb : M Fl) : Nat → M Fl
  | 0 => bad
  | n + 1 => bnd mt fun b => if b = true then bnd mb (fun f => match f with
    | .nx => whL mt mb n
    | .ct => whL mt mb n
    | .bk => ret .nx
    | .rt d => ret (.rt d)) else ret .nx
theorem ds_while {c : Expr} {body : List Stmt} {mt : M Bool} {mb : M Fl} {pos : Pos} (n : Nat) (hp : PassesOwn (model X.prog X.w) X.A X.env X.xe) (hc : DT X C c mt) (hb : DSs X C body mb) : DS X C (.While c body [] pos) (whL mt mb n) := fun G => by
  refine PS.imp (ps_while hp (hc C.P G) (hb G)) fun E σ H ⟨s0, F0, R0, h0⟩ => ?_
  refine ⟨fun m σ' H' => ∃ s F, Rel { C with F0 := G } σ' H' s F ∧ PostS { C with F0 := G } E (whL mt mb m s), ⟨n, s0, F0, R0, h0⟩, fun m σ1 H1 ⟨s1, F1, R1, p1⟩ => ?_⟩
  cases m with
  | zero => exact p1.elim
  | succ m =>
    unfold whL at p1
    refine td_imp (ts_bnd (rep := same) R1 p1) fun b H2 ⟨d, s2, F2, R2, e, p⟩ => ?_
    cases e
    cases b with
    | false => exact p σ1 H2 F2 R2
    | true =>
      rw [if_pos rfl] at p ⊢
      refine ⟨fun σ' H' => ∃ s F, Rel { C with F0 := G } σ' H' s F ∧ PostS { C with F0 := G } E (whL mt mb m s), fun σ' H' w => ⟨m, Nat.lt_succ_self _, w⟩, s2, F2, R2, ?_⟩
      unfold bnd at p
      cases q3 : mb s2 with
      | exc n s' => rw [q3] at p; exact p
      | bad => rw [q3] at p; exact p
      | ok f s5 =>
        rw [q3] at p
        cases f with
        | nx => exact fun σ' H' F' R => ⟨s5, F', R, p⟩
        | ct => exact fun σ' H' F' R => ⟨s5, F', R, p⟩
        | bk => exact p
        | rt d => exact p
/-! ### list comprehensions -/
abbrev Ct.nw (C : Ct) : Ct := { C with W := fun _ _ _ => False }
def wipeS (r : List Sl) : List Nat → List Sl
  | [] => r
  | v :: vs => (wipeS r vs).set v .un
def keepV : Option Sl → Sl
  | some (.val d) => .val d
  | _ => .un
def rstS (r0 r : List Sl) : List Nat → List Sl
  | [] => r
  | v :: vs => (rstS r0 r vs).set v (keepV r0[v]?)
def wp (vs : List Nat) : M Unit := fun s => .ok () { s with r := wipeS s.r vs }
def lcGo (asg : D → M Unit) (tst : M Bool) (elt : M D) (vs : List Nat) : List D → List D → M (List D)
  | [], acc => ret acc
  | x :: r, acc => bnd (asg x) fun _ => bnd tst fun b => if b = true then bnd elt (fun y => if acc.length < lim then bnd (wp vs) fun _ => lcGo asg tst elt vs r (acc ++ [y]) else bad)
    else bnd (wp vs) fun _ => lcGo asg tst elt vs r acc
def noX {α : Type} (m : M α) : M α := fun s => match m s with
  | .ok a s' => .ok a s'
  | _ => .bad
def eLc (src : M (List D)) (asg : D → M Unit) (tst : M Bool) (elt : M D) (vs : List Nat) : M (List D) := bnd src fun xs => fun s =>
  match lcGo asg tst elt vs xs [] { s with r := wipeS s.r vs } with
  | .ok ys s' => .ok ys { s' with r := rstS s.r s'.r vs }
  | _ => .bad
theorem wipeS_len (r : List Sl) : ∀ vs, (wipeS r vs).length = r.length
  | [] => rfl
  | v :: vs => by unfold wipeS; rw [List.length_set, wipeS_len r vs]
theorem rstS_len (r0 r : List Sl) : ∀ vs, (rstS r0 r vs).length = r.length
  | [] => rfl
  | v :: vs => by unfold rstS; rw [List.length_set, rstS_len r0 r vs]
theorem wipe_getD (σ : L2.St) (i : Nat) : ∀ vs : List Nat, (wipe σ vs).getD i none = if i ∈ vs then none else σ.getD i none
  | [] => by simp [wipe]
  | v :: vs => by
    have ih := wipe_getD σ i vs
    unfold wipe
    by_cases h : i = v
    · subst h
      rw [if_pos (List.mem_cons_self)]
      by_cases hl : i < (wipe σ vs).length
      · rw [List.getD_eq_getElem?_getD, List.getElem?_set_self hl]; rfl
      · rw [List.getD_eq_getElem?_getD, List.getElem?_eq_none (by simp; omega)]; rfl
    · rw [List.getD_eq_getElem?_getD, List.getElem?_set_ne (Ne.symm h), ← List.getD_eq_getElem?_getD, ih]
      simp [h]
theorem wipeS_get {r : List Sl} {i : Nat} {k : Sl} : ∀ {vs : List Nat}, (wipeS r vs)[i]? = some k → (i ∈ vs ∧ k = .un) ∨ (i ∉ vs ∧ r[i]? = some k)
  | [], h => .inr ⟨by simp, h⟩
  | v :: vs, h => by
    unfold wipeS at h
    by_cases e : i = v
    · subst e
      have hl : i < (wipeS r vs).length := by
        have := (List.getElem?_eq_some_iff.mp h).1
        simpa using this
      rw [List.getElem?_set_self hl] at h
      cases h
      exact .inl ⟨List.mem_cons_self, rfl⟩
    · rw [List.getElem?_set_ne (Ne.symm e)] at h
      rcases wipeS_get h with ⟨a, b⟩ | ⟨a, b⟩
      · exact .inl ⟨List.mem_cons_of_mem _ a, b⟩
      · exact .inr ⟨by simp [e, a], b⟩
theorem rstS_get {r0 r : List Sl} {i : Nat} {k : Sl} : ∀ {vs : List Nat}, (rstS r0 r vs)[i]? = some k → (i ∈ vs ∧ k = keepV r0[i]?) ∨ (i ∉ vs ∧ r[i]? = some k)
  | [], h => .inr ⟨by simp, h⟩
  | v :: vs, h => by
    unfold rstS at h
    by_cases e : i = v
    · subst e
      have hl : i < (rstS r0 r vs).length := by
        have := (List.getElem?_eq_some_iff.mp h).1
        simpa using this
      rw [List.getElem?_set_self hl] at h
      cases h
      exact .inl ⟨List.mem_cons_self, rfl⟩
    · rw [List.getElem?_set_ne (Ne.symm e)] at h
      rcases rstS_get h with ⟨a, b⟩ | ⟨a, b⟩
      · exact .inl ⟨List.mem_cons_of_mem _ a, b⟩
      · exact .inr ⟨by simp [e, a], b⟩
theorem rel_wipe {σ : L2.St} {H F : Hp} {s : S} (R : Rel C σ H s F) (vs : List Nat) : Rel C (wipe σ vs) H { s with r := wipeS s.r vs } F := by
  refine ⟨R.gr, by rw [wipeS_len, wipe_length]; exact R.len, fun i k e => ?_, fun i j a k l e1 e2 o1 o2 h1 h2 => ?_⟩
  · rcases wipeS_get e with ⟨_, z⟩ | ⟨h, e⟩
    · subst z; trivial
    · rw [wipe_getD, if_neg h]; exact R.sl i k e
  · rcases wipeS_get e1 with ⟨_, z⟩ | ⟨n1, e1⟩
    · subst z; cases o1
    · rcases wipeS_get e2 with ⟨_, z⟩ | ⟨n2, e2⟩
      · subst z; cases o2
      · rw [wipe_getD, if_neg n1] at h1
        rw [wipe_getD, if_neg n2] at h2
        exact R.dis i j a k l e1 e2 o1 o2 h1 h2
theorem rel_rst {σ : L2.St} {H0 H F0 F : Hp} {s0 s : S} {vs : List Nat} (R0 : Rel C σ H0 s0 F0) (e : Sub F0 F) (R : Rel C (wipe σ vs) H s F) : Rel C σ H { s with r := rstS s0.r s.r vs } F := by
  refine ⟨R.gr, by rw [rstS_len, R.len, wipe_length], fun i k e' => ?_, fun i j a k l e1 e2 o1 o2 h1 h2 => ?_⟩
  · rcases rstS_get e' with ⟨h, z⟩ | ⟨h, e'⟩
    · subst z
      cases q : s0.r[i]? with
      | none => trivial
      | some k =>
        cases k with
        | val d =>
          obtain ⟨u, e1, e2⟩ := R0.sl i _ q
          exact ⟨u, e1, dp_sub e e2⟩
        | un => trivial
        | own ds => trivial
        | cup => trivial
        | fn _ => trivial
    · have x := R.sl i k e'
      rw [wipe_getD, if_neg h] at x
      exact x
  · have nk : ∀ q, isOwn (keepV q) = false := fun q => by
      cases q with
      | none => rfl
      | some k => cases k <;> rfl
    rcases rstS_get e1 with ⟨_, z⟩ | ⟨n1, e1⟩
    · subst z; rw [nk] at o1; cases o1
    · rcases rstS_get e2 with ⟨_, z⟩ | ⟨n2, e2⟩
      · subst z; rw [nk] at o2; cases o2
      · refine R.dis i j a k l e1 e2 o1 o2 ?_ ?_
        · rw [wipe_getD, if_neg n1]; exact h1
        · rw [wipe_getD, if_neg n2]; exact h2
/-- what is held apart is changed -/
theorem rel_pinset {σ : L2.St} {H F : Hp} {s : S} {P : List (Addr × HO)} {a : Addr} {xs ys : List V} (R : Rel { C with P := (a, .lst xs) :: P } σ H s F) (hP : ∀ q ∈ P, q.1 ≠ a) : Rel { C with P := (a, .lst ys) :: P } σ (upd H a (.lst ys)) s F := by
  have g := R.gr
  obtain ⟨p1, p2, p3, p4, p5⟩ := g.pin (a, .lst xs) List.mem_cons_self
  refine ⟨⟨fun b u e1 e2 e3 => ?_, fun b e => ?_, fun p hp => ?_, ?_, g.fc, fun b u e => ?_, g.f0, g.fnew, g.ftab, fun q hq => ?_⟩, R.len, fun j k ej => ?_, R.dis⟩
  · have : b ≠ a := fun z => by rw [z, p5] at e1; cases e1
    rw [upd_ne this]; exact g.keep b u e1 e2 e3
  · by_cases hb : b = a
    · rw [hb]; exact p5
    · rw [upd_ne hb] at e; exact g.there b e
  · obtain ⟨ps, e1, e2, e3⟩ := g.tabs p hp
    have n1 : p.1 ≠ a := fun z => by rw [z, p1] at e1; cases e1
    refine ⟨ps, by rw [upd_ne n1]; exact e1, e2, fun pos cv hcv => ?_⟩
    obtain ⟨c, q1, q2⟩ := e3 pos cv hcv
    refine ⟨c, q1, ?_⟩
    have n2 : c ≠ a := fun z => by rw [z, p1] at q2; cases q2
    rw [upd_ne n2]; exact q2
  · rw [upd_ne (Ne.symm p3)]; exact g.cup
  · have : b ≠ a := fun z => by rw [z, p2] at e; cases e
    rw [upd_ne this]; exact g.fsub b u e
  · rcases List.mem_cons.mp hq with z | z
    · subst z; exact ⟨upd_same, p2, p3, (fun ps z => nomatch z), p5⟩
    · rw [upd_ne (hP q z)]; exact g.pin q (List.mem_cons_of_mem _ z)
  · have x := R.sl j k ej
    cases k with
    | own ds2 =>
      obtain ⟨b, ws, f1, f2, f3, f4, f5, f6, f7⟩ := x
      have nb : b ≠ a := fun z => f7 (a, .lst xs) List.mem_cons_self z.symm
      refine ⟨b, ws, f1, f2, f3, f4, by rw [upd_ne nb]; exact f5, f6, fun q hq => ?_⟩
      rcases List.mem_cons.mp hq with z | z
      · subst z; exact fun y => nb y.symm
      · exact f7 q (List.mem_cons_of_mem _ z)
    | un => exact x
    | val d => exact x
    | cup => exact x
    | fn _ => exact x
/-- the wish of exceptions does not matter where none comes -/
theorem rel_nw {σ : L2.St} {H F : Hp} {s : S} (R : Rel C σ H s F) (W : Value → Option Addr → Hp → Prop) : Rel { C with W := W } σ H s F :=
  ⟨⟨R.gr.keep, R.gr.there, R.gr.tabs, R.gr.cup, R.gr.fc, R.gr.fsub, R.gr.f0, R.gr.fnew, R.gr.ftab, R.gr.pin⟩, R.len, fun i k e => by
    have x := R.sl i k e
    cases k <;> exact x, R.dis⟩
end
end PL
set_option maxHeartbeats 2000000
namespace PL
open PySem PySem.Spec PyProof.Rows L2 LamX
theorem wipe_get (σ : L2.St) (i : Nat) : ∀ vs : List Nat, (wipe σ vs)[i]? = if i ∈ vs then (if i < σ.length then some none else none) else σ[i]?
  | [] => by simp [wipe]
  | v :: vs => by
    have ih := wipe_get σ i vs
    unfold wipe
    by_cases h : i = v
    · subst h
      rw [if_pos (List.mem_cons_self)]
      by_cases hl : i < (wipe σ vs).length
      · rw [List.getElem?_set_self hl, if_pos (by rw [← wipe_length σ vs]; exact hl)]
      · rw [List.getElem?_eq_none (by simp; omega), if_neg (by rw [← wipe_length σ vs]; exact hl)]
    · rw [List.getElem?_set_ne (Ne.symm h), ih]
      simp [h]
theorem chg_wipe {vs ws : List Nat} {σ σ' : L2.St} (h : Chg vs σ σ') (hv : ∀ i ∈ vs, i ∈ ws) : wipe σ' ws = wipe σ ws := by
  apply List.ext_getElem?
  intro i
  rw [wipe_get, wipe_get, h.1]
  by_cases hi : i ∈ ws
  · rw [if_pos hi, if_pos hi]
  · rw [if_neg hi, if_neg hi]
    exact h.2 i fun z => hi (hv i z)
theorem bnd_ok {α β : Type} {m : M α} {k : α → M β} {s s' : S} {b : β} (h : bnd m k s = .ok b s') : ∃ a s1, m s = .ok a s1 ∧ k a s1 = .ok b s' := by
  unfold bnd at h
  cases q : m s with
  | ok a s1 => rw [q] at h; exact ⟨a, s1, rfl, h⟩
  | exc n s1 => rw [q] at h; cases h
  | bad => rw [q] at h; cases h
section
variable {X : Cx} {C : Ct}
def TDTs (X : Cx) (C : Ct) (ifs : List Expr) (m : M Bool) : Prop := ∀ P G, PTs X ifs (TDT { C with P := P, F0 := G } m)
theorem PTs.imp {es : List Expr} {t t' : TT} (h : PTs X es t) (i : ∀ σ H Q, t' σ H Q → t σ H Q) : PTs X es t' := ⟨fun pins s σ H Q I q => h.run pins s σ H Q I (i σ H Q q)⟩
theorem dts_nil : TDTs X C [] (ret true) := fun P G => PTs.imp pts_nil fun σ H Q h => td_retT h
theorem dts_one {c : Expr} {m : M Bool} (h : DT X C c m) : TDTs X C [c] m := fun P G => pts_one (h P G)
/-- the readings of the parts, whatever is held apart -/
def gAny (C : Ct) (vs : List Nat) (asg : D → M Unit) : TG := fun v σ H Q => ∃ P G, TDGt { C with P := P, F0 := G } vs asg v σ H Q
def tAny (C : Ct) (m : M Bool) : TT := fun σ H Q => ∃ P G, TDT { C with P := P, F0 := G } m σ H Q
def eAny (C : Ct) (m : M D) : TE := fun σ H Q => ∃ P G, TD { C with P := P, F0 := G } m σ H Q
theorem pg_any {tg : Expr} {vs : List Nat} {asg : D → M Unit} (h : DG X C tg vs asg) : PG X tg (gAny C vs asg) := ⟨fun pins s σ H v u Q I r ⟨P, G, q⟩ => (h P G).run pins s σ H v u Q I r q⟩
theorem pts_any {ifs : List Expr} {m : M Bool} (h : TDTs X C ifs m) : PTs X ifs (tAny C m) := ⟨fun pins s σ H Q I ⟨P, G, q⟩ => (h P G).run pins s σ H Q I q⟩
theorem pe_any {e : Expr} {m : M D} (h : DE X C e m) : PE X e (eAny C m) := ⟨fun pins s σ H Q I ⟨P, G, q⟩ => (h P G).run pins s σ H Q I q⟩
theorem tlc_ok {m : M (List D)} {asg : D → M Unit} {ts : List Nat} {tst : M Bool} {elt : M D} {vs : List Nat} {P : List (Addr × HO)} {G0 : Hp} {σ : L2.St} {H : Hp} {Q : VK} (hv : ∀ i ∈ ts, i ∈ vs)
    (h : TDF { C with P := P, F0 := G0 } (eLc m asg tst elt vs) σ H Q) : tLc (TDI { C with P := P, F0 := G0 } m) (gAny C.nw ts asg) (tAny C.nw tst) (eAny C.nw elt) vs σ H Q := by
  obtain ⟨s0, F0, R0, h0⟩ := h
  refine ⟨s0, F0, R0, ?_⟩
  unfold eLc bnd at h0
  cases q : m s0 with
  | exc n s' => rw [q] at h0; exact h0
  | bad => rw [q] at h0; exact h0
  | ok ds s1 =>
    rw [q] at h0
    dsimp only at h0
    intro J H1 F1 R1 e1 g1 A hA
    cases q2 : lcGo asg tst elt vs ds [] { s1 with r := wipeS s1.r vs } with
    | exc n s' => rw [q2] at h0; exact h0.elim
    | bad => rw [q2] at h0; exact h0.elim
    | ok ys s2 =>
      rw [q2] at h0
      obtain ⟨Gd, Y, Wk, hG, hY⟩ := g1
      have R1w := rel_wipe R1 vs
      have fr := fresh_new R1w hA
      have fr1 := fresh_new R1 hA
      have hPA : ∀ q ∈ P, q.1 ≠ A := fr.p
      have R2 := rel_newU (o := .lst []) R1w hA (fun ps z => nomatch z)
      have R3 : Rel { C with P := (A, .lst []) :: P, F0 := G0 } (wipe σ vs) (upd H1 A (.lst [])) { s1 with r := wipeS s1.r vs } F1 := rel_pin (C := { C with F0 := G0 }) R2 ⟨fr.c, fr.f, fr.h0, fr.p, fr.o⟩ upd_same (fun ps z => nomatch z)
      have R4 : Rel { C.nw with P := (A, .lst []) :: P, F0 := F1 } (wipe σ vs) (upd H1 A (.lst [])) { s1 with r := wipeS s1.r vs } F1 := rel_to (C := { C.nw with P := (A, .lst []) :: P, F0 := G0 }) (rel_nw R3 _) (sub_refl F1) (fun a e _ => e)
      refine lc_it (g := gAny C.nw ts asg) (tt := tAny C.nw tst) (te := eAny C.nw elt) (vs := vs) (σ := σ) (Qd := fun H => Q (.ref A) H) Wk
        (fun i H => ∃ acc accV s F, Rel { C.nw with P := (A, .lst accV) :: P, F0 := F1 } (wipe σ vs) H s F ∧ RpAll C.K F accV acc ∧ lcGo asg tst elt vs (ds.drop i) acc s = .ok ys s2)
        ⟨[], [], _, F1, R4, .nil, q2⟩ (fun i H _ ⟨acc, accV, s, F, R, _, _⟩ => hG H F R.gr.f0 R.gr.fsub) ?_ ?_
      · rintro i x H3 H4 hi ⟨acc, accV, s3, F3, R3, ra, p3⟩ y
        obtain ⟨d, ed, yl⟩ := hY i H3 x H4 F3 hi R3.gr.f0 R3.gr.fsub y
        obtain ⟨F4, e4, R4, r4⟩ := rel_yl R3 yl
        have hd : ds.drop i = d :: ds.drop (i + 1) := by
          rw [List.drop_eq_getElem_cons hi]
          rw [List.getElem?_eq_getElem hi] at ed
          rw [Option.some.inj ed]
        rw [hd] at p3
        obtain ⟨u, s4, q3, p3⟩ := bnd_ok p3
        obtain ⟨b, s5, q4, p3⟩ := bnd_ok p3
        refine ⟨(A, .lst accV) :: P, F1, s3, F4, d, R4, r4, ?_⟩
        rw [q3]
        intro σ5 H5 F5 cg R5 e5
        have hw : wipe σ5 vs = wipe σ vs := by
          rw [chg_wipe cg hv]
          apply List.ext_getElem?
          intro j
          rw [wipe_get, wipe_get, wipe_length]
          by_cases hj : j ∈ vs
          · rw [if_pos hj, if_pos hj]
          · rw [if_neg hj, if_neg hj]
        refine ⟨hw, (A, .lst accV) :: P, F1, s4, F5, R5, ?_⟩
        rw [q4]
        intro b' H6 F6 R6 e6 eb
        have eb : b' = b := eb
        subst eb
        cases b' with
        | false =>
          rw [if_neg Bool.false_ne_true] at p3 ⊢
          have R7 := rel_wipe R6 vs
          rw [hw] at R7
          exact ⟨acc, accV, _, F6, R7, dps_sub (sub_trans e4 (sub_trans e5 e6)) ra, p3⟩
        | true =>
          rw [if_pos rfl] at p3 ⊢
          obtain ⟨d6, s6, q5, p3⟩ := bnd_ok p3
          refine ⟨(A, .lst accV) :: P, F1, s5, F6, R6, ?_⟩
          rw [q5]
          intro v7 H7 F7 R7 e7 r7
          split at p3
          · rename_i hl
            have at7 := (R7.gr.pin (A, .lst accV) List.mem_cons_self).1
            have hlen := dps_len ra
            refine ⟨accV, at7, Nat.lt_of_lt_of_le (by rw [hlen]; exact hl) (lim_line (Nat.le_refl lim)), acc ++ [d6], accV ++ [v7], _, F7, ?_, dps_app (dps_sub (sub_trans e4 (sub_trans e5 (sub_trans e6 e7))) ra) (.cons r7 .nil), p3⟩
            have R8 := rel_wipe R7 vs
            rw [hw] at R8
            exact rel_pinset (C := { C.nw with F0 := F1 }) R8 hPA
          · cases p3
      · rintro H3 ⟨acc, accV, s3, F3, R3, ra, p3⟩
        rw [List.drop_length] at p3
        have p4 : Res.ok acc s3 = Res.ok ys s2 := p3
        injection p4 with p5 p6
        subst p5 p6
        obtain ⟨R4, a1, a2, a3, a4, a5⟩ := rel_unpin' (C := { C.nw with F0 := F1 }) R3
        have R5 : Rel { C with P := P, F0 := F1 } (wipe σ vs) H3 s3 F3 := rel_nw (C := { C.nw with P := P, F0 := F1 }) R4 C.W
        have R6 : Rel { C with P := P, F0 := G0 } (wipe σ vs) H3 s3 F3 := rel_at (C := { C with P := P, F0 := G0 }) R5 R1.gr.f0 R1.gr.fnew
        have R7 := rel_rst R1 R5.gr.f0 R6
        refine h0 A accV H3 F3 R7 (sub_trans e1 R5.gr.f0) ⟨a3, a2, a4, hPA, fun i k e ho z => ?_⟩ a1 ra
        have nk : ∀ q, isOwn (keepV q) = false := fun q => by
          cases q with
          | none => rfl
          | some k => cases k <;> rfl
        rcases rstS_get e with ⟨_, w⟩ | ⟨n1, e'⟩
        · subst w; rw [nk] at ho; cases ho
        · exact a5 i k e' ho (by rw [wipe_getD, if_neg n1]; exact z)
theorem df_lc {elt tg iter : Expr} {ifs : List Expr} {scope : Scope} {own : List (Str × Nat)} {pos : Pos} {m : M (List D)} {ts : List Nat} {asg : D → M Unit} {tst : M Bool} {me : M D} (hc : X.calm = true) (hN : X.N.Nodup) (hi : DI X C tg iter m) (ok : BlkOk X.N X.env.scope scope own)
    (hv : ∀ i ∈ ts, i ∈ own.map (·.2))
    (hg : ∀ (s : Shared) (H : Hp) (A : Addr) (cl : List (Str × Addr)) (fp : List Addr), DG (X.blk s H scope (compEnvC scope cl A X.env) fp) C.nw tg ts asg) (ht : ∀ (s : Shared) (H : Hp) (A : Addr) (cl : List (Str × Addr)) (fp : List Addr), TDTs (X.blk s H scope (compEnvC scope cl A X.env) fp) C.nw ifs tst)
    (he : ∀ (s : Shared) (H : Hp) (A : Addr) (cl : List (Str × Addr)) (fp : List Addr), DE (X.blk s H scope (compEnvC scope cl A X.env) fp) C.nw elt me) (hs : ∀ x, foldedSetIterable iter X.env x = pure x := by intro _; rfl) :
    DF X C (.ListComp elt [⟨tg, iter, ifs, 0⟩] scope pos) (eLc m asg tst me (own.map (·.2))) := fun P G =>
  PE.imp (pe_lc hc hN (hi P G) ok (fun s H A cl fp => pg_any (hg s H A cl fp)) (fun s H A cl fp => pts_any (ht s H A cl fp)) (fun s H A cl fp => pe_any (he s H A cl fp)) hs) fun σ H Q h => tlc_ok hv h
end
end PL
set_option maxHeartbeats 2000000
namespace PL
open PySem PySem.Spec PyProof.Rows L2 LamX
/-! ### defs -/
inductive Rk where
  | ok (d : D) (k : Int × Int)
  | exc (n : Str) (k : Int × Int)
  | bad
abbrev Dn := List D → Int × Int → Rk
/-- what a def promises: cf: its first parameter is the cup; n: how many others -/
def spD (K : PySem.W.Frag) (mg : Str → Option Value) (T : List (Addr × Str)) (cf : Bool) (n : Nat) (den : Dn) : Sp := fun vs H Q E => ∃ (c : Addr) (F : Hp) (ds : List D) (ws : List V) (k : Int × Int),
  vs = (if cf then [V.ref c] else []) ++ ws ∧ ds.length = n ∧ RpAll K F ws ds ∧ Tabs T H ∧ H c = some (cupO k) ∧ F c = none ∧ Sub F H ∧ (∀ a o, F a = some o → NoTbl o) ∧
  match den ds k with
  | .ok d k' => ∀ v H' F', Gr ⟨K, mg, T, c, H, F, [], fun _ _ _ => False⟩ H' F' k' → Rp K F' v d → Q v H'
  | .exc nm k' => ∀ H' F' A, Gr ⟨K, mg, T, c, H, F, [], fun _ _ _ => False⟩ H' F' k' → mg nm = some (.ref A) → E (.ref A) none H'
  | .bad => False
theorem spD_len {K : PySem.W.Frag} {mg : Str → Option Value} {T : List (Addr × Str)} {cf : Bool} {n : Nat} {den : Dn} : ∀ vs H Q E, spD K mg T cf n den vs H Q E → vs.length = (if cf then 1 else 0) + n := by
  rintro vs H Q E ⟨c, F, ds, ws, k, rfl, hn, hr, _⟩
  rw [List.length_append, dps_len hr, hn]
  cases cf <;> rfl
theorem gr_anyW {C C' : Ct} {H F : Hp} {k : Int × Int} (g : Gr C H F k) (h1 : C'.K = C.K) (h2 : C'.T = C.T) (h3 : C'.c = C.c) (h4 : C'.H0 = C.H0) (h5 : C'.F0 = C.F0) (h6 : C'.P = C.P) : Gr C' H F k := by
  obtain ⟨K, mg, T, c, H0, F0, P, W⟩ := C
  obtain ⟨K', mg', T', c', H0', F0', P', W'⟩ := C'
  cases h1; cases h2; cases h3; cases h4; cases h5; cases h6
  exact ⟨g.keep, g.there, g.tabs, g.cup, g.fc, g.fsub, g.f0, g.fnew, g.ftab, g.pin⟩
section
variable {C : Ct} {σ : L2.St} {H H' F F' : Hp} {s : S} {k : Int × Int}
theorem gr_call (g : Gr C H F s.c) {mg : Str → Option Value} {W : Value → Option Addr → Hp → Prop} (g' : Gr ⟨C.K, mg, C.T, C.c, H, F, [], W⟩ H' F' k) : Gr C H' F' k where
  keep := fun a o e1 e2 e3 => g'.keep a o (g.keep a o e1 e2 e3) e2 e3
  there := fun a e => g.there a (g'.there a e)
  tabs := g'.tabs
  cup := g'.cup
  fc := g'.fc
  fsub := g'.fsub
  f0 := sub_trans g.f0 g'.f0
  fnew := fun a e1 e2 => g'.fnew a (g.fnew a e1 e2) fun z => e2 (g.there a z)
  ftab := g'.ftab
  pin := fun p hp => by
    obtain ⟨p1, p2, p3, p4, p5⟩ := g.pin p hp
    exact ⟨g'.keep _ _ p1 p3 p4, g'.fnew _ p2 (by show H p.1 ≠ none; rw [p1]; exact fun z => nomatch z), p3, p4, p5⟩
theorem rel_call (R : Rel C σ H s F) {mg : Str → Option Value} {W : Value → Option Addr → Hp → Prop} (g' : Gr ⟨C.K, mg, C.T, C.c, H, F, [], W⟩ H' F' k) : Rel C σ H' { s with c := k } F' := by
  refine ⟨gr_call R.gr g', R.len, fun i l e => ?_, R.dis⟩
  have x := R.sl i l e
  cases l with
  | un => exact x
  | cup => exact x
  | fn _ => exact x
  | val d => obtain ⟨u, e1, e2⟩ := x; exact ⟨u, e1, dp_sub g'.f0 e2⟩
  | own ds =>
    obtain ⟨a, vs, e1, e2, e3, e4, e5, e6, e7⟩ := x
    exact ⟨a, vs, e1, e2, g'.fnew a e3 (by show H a ≠ none; rw [e5]; exact fun z => nomatch z), e4, g'.keep a _ e5 e2 (owR_mu e6).nt, owR_sub g'.f0 e6, e7⟩
end
section
variable {X : Cx} {C : Ct}
/-- arguments; ci: the slot of the cup, where it is the first one -/
def TDAk (C : Ct) (ci : Option Nat) (m : M (List D)) : TA := fun σ H Q => ∃ s F, Rel C σ H s F ∧
  match ci with
  | none => PostG C σ (RpAll C.K) F (m s) Q
  | some i => s.r[i]? = some .cup ∧ PostG C σ (RpAll C.K) F (m s) (fun vs H' => Q (.ref C.c :: vs) H')
def DAk (X : Cx) (C : Ct) (es : List Expr) (ci : Option Nat) (m : M (List D)) : Prop := ∀ P G, PA X es (TDAk { C with P := P, F0 := G } ci m)
theorem dak_none {es : List Expr} {m : M (List D)} (h : DA X C es m) : DAk X C es none m := h
theorem dak_cup {x : Str} {i : Nat} {p : Pos} {es : List Expr} {m : M (List D)} (hN : X.N[i]? = some x) (hv : Vis X.env.scope x) (h : DA X C es m) (hd : (x == ("__debug__" : Str)) = false := by decide) (hcd : (x == ("__classdict__" : Str)) = false := by decide)
    (hs : starEach (.Name x p :: es) X.env = (false, eval (.Name x p) X.env) :: starEach es X.env := by rfl) : DAk X C (.Name x p :: es) (some i) m := fun P G => by
  refine PA.imp (pa_cons (pe_var hN hv hd hcd) (h P G) hs) fun σ H Q ⟨s, F, R, hc, hp⟩ => ?_
  exact ⟨.ref C.c, getD_some (R.sl i _ hc), s, F, R, hp⟩
def ArgN (m : M (List D)) (n : Nat) : Prop := ∀ s ds s', m s = .ok ds s' → ds.length = n
theorem argn_nil : ArgN aNil 0 := fun s ds s' h => by cases h; rfl
theorem argn_cons {m : M D} {r : M (List D)} {n : Nat} (h : ArgN r n) : ArgN (aCons m r) (n + 1) := fun s ds s' e => by
  obtain ⟨d, s1, _, e⟩ := bnd_ok e
  obtain ⟨ds1, s2, e2, e⟩ := bnd_ok e
  have e3 : Res.ok (d :: ds1) s2 = Res.ok ds s' := e
  injection e3 with e4 e5
  subst e4
  rw [List.length_cons, h _ _ _ e2]
theorem tdak_imp {ci : Option Nat} {m : M (List D)} {σ : L2.St} {H : Hp} {Q Q' : List V → Hp → Prop} (h : TDAk C ci m σ H Q) (i : ∀ vs H', Q vs H' → Q' vs H') : TDAk C ci m σ H Q' := by
  obtain ⟨s, F, R, h⟩ := h
  refine ⟨s, F, R, ?_⟩
  cases ci with
  | none => exact PostG.imp (show PostG C σ (RpAll C.K) F (m s) Q from h) i
  | some j => exact ⟨h.1, PostG.imp h.2 fun vs H' q => i _ _ q⟩
theorem post_args {m : M (List D)} {k : List D → M D} {n : Nat} {σ : L2.St} {s : S} {F : Hp} {Q : VK} (hn : ArgN m n) (h : PostG C σ (Rp C.K) F (bnd m k s) Q) :
    PostG C σ (RpAll C.K) F (m s) fun v H' => ∃ d s' F', Rel C σ H' s' F' ∧ Sub F F' ∧ RpAll C.K F' v d ∧ d.length = n ∧ PostG C σ (Rp C.K) F' (k d s') Q := by
  unfold bnd at h
  cases q : m s with
  | ok d s' =>
    rw [q] at h
    exact fun v H' F' a b c => ⟨d, s', F', a, b, c, hn _ _ _ q, h.mono b⟩
  | exc n s' => rw [q] at h; exact h
  | bad => rw [q] at h; exact h
def hasCup (ci : Option Nat) (s : S) : Bool := match ci with
  | none => true
  | some i => match s.r[i]? with
    | some .cup => true
    | _ => false
def callD (den : Dn) (ds : List D) : M D := fun s' => match den ds s'.c with
  | .ok d k => .ok d { s' with c := k }
  | .exc n k => .exc n { s' with c := k }
  | .bad => .bad
def eCall (ci : Option Nat) (den : Dn) (m : M (List D)) : M D := fun s => if hasCup ci s = true then bnd m (callD den) s else .bad
theorem td_args {ci : Option Nat} {m : M (List D)} {k : List D → M D} {n : Nat} {σ : L2.St} {H : Hp} {Q : VK} {s : S} {F : Hp} (hn : ArgN m n) (R : Rel C σ H s F) (h : PostG C σ (Rp C.K) F (if hasCup ci s = true then bnd m k s else .bad) Q) :
    TDAk C ci m σ H fun vs H' => ∃ ds ws s' F', vs = (if ci.isSome then [V.ref C.c] else []) ++ ws ∧ Rel C σ H' s' F' ∧ RpAll C.K F' ws ds ∧ ds.length = n ∧ PostG C σ (Rp C.K) F' (k ds s') Q := by
  refine ⟨s, F, R, ?_⟩
  cases ci with
  | none =>
    rw [if_pos (show hasCup none s = true from rfl)] at h
    exact (post_args hn h).imp fun vs H' ⟨d, s', F', a, b, c, l, e⟩ => ⟨d, vs, s', F', rfl, a, c, l, e⟩
  | some i =>
    by_cases z : hasCup (some i) s = true
    · rw [if_pos z] at h
      refine ⟨?_, (post_args hn h).imp fun vs H' ⟨d, s', F', a, b, c, l, e⟩ => ⟨d, vs, s', F', rfl, a, c, l, e⟩⟩
      unfold hasCup at z
      dsimp only at z
      split at z
      · assumption
      · cases z
    · rw [if_neg z] at h; exact h.elim
theorem de_call {cf : Bool} {n k : Nat} {den : Dn} {f : Addr} {fd : FuncData} {ps : List Str} {x : Str} {p pos : Pos} {e : Expr} {es : List Expr} {ci : Option Nat} {m : M (List D)}
    (F : FnOk X.prog X.w X.K X.mg X.base (L2N.CX X.prog X.w) k f fd ps (spD X.K X.mg C.T cf n den)) (hci : ci.isSome = cf) (hK : C.K = X.K) (hM : C.mg = X.mg) (hr : Room k X.A) (hg : Gl X x) (hm : X.mg x = some (.ref f)) (hk : PySem.W.keepIn X.K (.ref f) = true) (hb : Binds X.K fd ps [])
    (tk : L2N.Takes X (fun cls d _ H => C.W cls d H)) (hn : ArgN m n)
    (ha : DAk X C (e :: es) ci m) (hdb : (x == ("__debug__" : Str)) = false := by decide) (he : starEach (e :: es) X.env = (false, eval e X.env) :: starEach es X.env := by rfl) (hpl : (backTo pos (starEach es X.env)).any (·.1) = false := by rfl) :
    DE X C (.Call (.Name x p) (e :: es) [] pos) (eCall ci den m) := fun P G => by
  refine PE.imp (pe_callS F hr hg hm hk hb (fun σ => L2N.passAt tk σ) (ha P G) hdb he hpl) fun σ H Q ⟨s, F0, R, h⟩ => ?_
  subst hci
  refine tdak_imp (td_args hn R h) fun vs H1 ⟨ds, ws, s1, F1, ev, R1, r1, l1, p1⟩ => ?_
  have g := R1.gr
  refine ⟨C.c, F1, ds, ws, s1.c, ev, l1, by rw [← hK]; exact r1, g.tabs, g.cup, g.fc, g.fsub, g.ftab, ?_⟩
  unfold callD at p1
  rw [← hK, ← hM]
  cases q : den ds s1.c with
  | bad => rw [q] at p1; exact p1.elim
  | ok d k =>
    rw [q] at p1
    exact fun v H' F' g' r' => p1 v H' F' (rel_call R1 g') g'.f0 r'
  | exc nm k =>
    rw [q] at p1
    exact fun H' F' A g' hA => p1 H' F' A (gr_call (s := s1) g g') hA
/-! ### a def's body -/
def initS (N : Nat) (cf : Bool) (ds : List D) : List Sl := (if cf then [Sl.cup] else []) ++ ds.map Sl.val ++ List.replicate (N - ((if cf then 1 else 0) + ds.length)) Sl.un
def denOf (N : Nat) (cf : Bool) (m : M Fl) : Dn := fun ds k => match m ⟨initS N cf ds, k⟩ with
  | .ok (.rt d) s' => .ok d s'.c
  | .ok .nx s' => .ok .none s'.c
  | .exc n s' => .exc n s'.c
  | _ => .bad
theorem rel_init {K : PySem.W.Frag} {mg : Str → Option Value} {T : List (Addr × Str)} {c : Addr} {H F : Hp} {k : Int × Int} {W : Value → Option Addr → Hp → Prop} {cf : Bool} {ds : List D} {ws : List V} {N : List Str} (hr : RpAll K F ws ds) (hl : (if cf then 1 else 0) + ds.length ≤ N.length)
    (ht : Tabs T H) (hc : H c = some (cupO k)) (hf : F c = none) (hs : Sub F H) (hb : ∀ a o, F a = some o → NoTbl o) :
    Rel ⟨K, mg, T, c, H, F, [], W⟩ (L2.start N ((if cf then [V.ref c] else []) ++ ws)) H ⟨initS N.length cf ds, k⟩ F := by
  have l1 := dps_len hr
  have slot : ∀ i k, (initS N.length cf ds)[i]? = some k → SlOk ⟨K, mg, T, c, H, F, [], W⟩ F H ((L2.start N ((if cf then [V.ref c] else []) ++ ws)).getD i none) k ∧ isOwn k = false := by
    intro i k e
    have key : ∀ (j : Nat) (vs : List V), j < vs.length → (L2.start N vs).getD j none = vs[j]? := fun j vs h => by
      unfold L2.start
      rw [List.getD_eq_getElem?_getD, List.getElem?_append_left (by simpa using h), List.getElem?_map]
      cases vs[j]? <;> rfl
    unfold initS at e
    cases cf with
    | true =>
      cases i with
      | zero =>
        simp at e
        subst e
        refine ⟨?_, rfl⟩
        show _ = some (V.ref c)
        rw [key 0 _ (by simp)]
        rfl
      | succ i =>
        simp only [if_true, List.cons_append, List.nil_append, List.getElem?_cons_succ] at e
        by_cases hi : i < ds.length
        · rw [List.getElem?_append_left (by simpa using hi), List.getElem?_map, List.getElem?_eq_getElem hi] at e
          cases e
          obtain ⟨v, ev, rv⟩ := dps_get hr (List.getElem?_eq_getElem hi)
          refine ⟨⟨v, ?_, rv⟩, rfl⟩
          rw [key (i + 1) _ (by simp; omega)]
          simpa using ev
        · rw [List.getElem?_append_right (by simpa using Nat.le_of_not_lt hi), List.getElem?_replicate] at e
          split at e
          · cases e; exact ⟨trivial, rfl⟩
          · cases e
    | false =>
      simp only [Bool.false_eq_true, if_false, List.nil_append] at e
      by_cases hi : i < ds.length
      · rw [List.getElem?_append_left (by simpa using hi), List.getElem?_map, List.getElem?_eq_getElem hi] at e
        cases e
        obtain ⟨v, ev, rv⟩ := dps_get hr (List.getElem?_eq_getElem hi)
        refine ⟨⟨v, ?_, rv⟩, rfl⟩
        rw [key i _ (by simp; omega)]
        simpa using ev
      · rw [List.getElem?_append_right (by simpa using Nat.le_of_not_lt hi), List.getElem?_replicate] at e
        split at e
        · cases e; exact ⟨trivial, rfl⟩
        · cases e
  refine ⟨⟨fun a o e _ _ => e, fun a e => e, ht, hc, hf, hs, sub_refl F, fun a e _ => e, hb, fun p hp => absurd hp (by simp)⟩, ?_, fun i k e => (slot i k e).1, fun i j a k l e1 _ o1 => ?_⟩
  · unfold initS L2.start
    cases cf <;> simp at hl ⊢ <;> omega
  · rw [(slot i k e1).2] at o1; cases o1
section
variable {P : Program} {w : World} {K : PySem.W.Frag} {mg : Str → Option Value} {base : Heap}
/-- the context of a def's body -/
abbrev dX (P : Program) (w : World) (K : PySem.W.Frag) (mg : Str → Option Value) (base : Heap) (N : List Str) (qual : Str) (st : Stmt) (f : Addr) (cdv : Value) (A : Around) (outer : List Env) (s : Shared) (H : Hp) (E : XK) : Cx := cxOf (L2N.CX P w) P w K mg base N qual (defScope st) f cdv A outer s H E
theorem dx_takes {N : List Str} {qual : Str} {st : Stmt} {f : Addr} {cdv : Value} {A : Around} {outer : List Env} {s : Shared} {H : Hp} {E : XK} : L2N.Takes (dX P w K mg base N qual st f cdv A outer s H E) (fun cls d _ H => E cls d H) := L2N.takes_of rfl rfl rfl rfl
theorem dx_passes {N : List Str} {qual : Str} {st : Stmt} {f : Addr} {cdv : Value} {A : Around} {outer : List Env} {s : Shared} {H : Hp} {E : XK} : PassesOwn (model P w) (dX P w K mg base N qual st f cdv A outer s H E).A (dX P w K mg base N qual st f cdv A outer s H E).env (dX P w K mg base N qual st f cdv A outer s H E).xe := passes_of rfl
/-- a def that may raise: its promise by its body -/
theorem fn_okN {x qual : Str} {st : Stmt} {f : Addr} {fd : FuncData} {N ps : List Str} {k : Nat} {sp : Sp} (F : Fun K x qual st f fd) (S : FnScope N ps (defScope st)) (len : ∀ vs H Q E, sp vs H Q E → vs.length = ps.length)
    (body : ∀ (cdv : Value) (A : Around) (outer : List Env) (s : Shared) (H : Hp) (vs : List V) (Q : VK) (E : XK), Room k (A.deeper (envOfC qual (defScope st) s.heap.objs.size f cdv)) → sp vs H Q E →
      ∃ t, PSs (dX P w K mg base N qual st f cdv A outer s H E) (defBody st) t ∧ t { nx := fun _ H' => Q .non H', rt := Q } (L2.start N vs) H) : FnOk P w K mg base (L2N.CX P w) (k + 1) f fd ps sp := by
  obtain ⟨oc, od, kV, doc, pm, an, cdv, ct, osl, rfl, lk, hcd⟩ := F.ex
  exact fn_of lk hcd S len fun A outer s H vs Q E => body cdv A outer s H vs Q E
theorem fn_den {x qual : Str} {st : Stmt} {f : Addr} {fd : FuncData} {N ps : List Str} {k : Nat} {T : List (Addr × Str)} {cf : Bool} {n : Nat} {m : M Fl} (F : Fun K x qual st f fd) (S : FnScope N ps (defScope st)) (hps : ps.length = (if cf then 1 else 0) + n)
    (body : ∀ (cdv : Value) (A : Around) (outer : List Env) (s : Shared) (H : Hp) (E : XK) (c : Addr) (F0 : Hp), Room k (A.deeper (envOfC qual (defScope st) s.heap.objs.size f cdv)) →
      DSs (dX P w K mg base N qual st f cdv A outer s H E) ⟨K, mg, T, c, H, F0, [], E⟩ (defBody st) m) : FnOk P w K mg base (L2N.CX P w) (k + 1) f fd ps (spD K mg T cf n (denOf N.length cf m)) := by
  refine fn_okN F S (fun vs H Q E h => by rw [spD_len vs H Q E h, hps]) (fun cdv A outer s H vs Q E hr h => ?_)
  obtain ⟨c, F0, ds, ws, k0, rfl, hn, hrp, ht, hc, hf, hs, hb, hp⟩ := h
  have hpl : ps.length ≤ N.length := by have := congrArg List.length S.pre; rw [List.length_take] at this; omega
  refine ⟨_, body cdv A outer s H E c F0 hr F0, ⟨initS N.length cf ds, k0⟩, F0, rel_init hrp (by rw [hn, ← hps]; exact hpl) ht hc hf hs hb, ?_⟩
  unfold denOf at hp
  cases q : m ⟨initS N.length cf ds, k0⟩ with
  | bad => rw [q] at hp; exact hp.elim
  | exc nm s' =>
    rw [q] at hp
    exact fun H' F' A g hA => hp H' F' A (gr_anyW g rfl rfl rfl rfl rfl rfl) hA
  | ok fl s' =>
    rw [q] at hp
    cases fl with
    | rt d => exact fun v H' F' g r => hp v H' F' (gr_anyW g rfl rfl rfl rfl rfl rfl) r
    | nx => exact fun σ' H' F' R => hp .non H' F' (gr_anyW R.gr rfl rfl rfl rfl rfl rfl) .non
    | bk => exact hp.elim
    | ct => exact hp.elim
end
end
end PL
set_option maxHeartbeats 2000000
namespace PL
open PySem PySem.Spec PyProof.Rows L2 LamX
/-! ### a slot looked at in place -/
def peek (s : S) (i : Nat) : Option D := match s.r[i]? with
  | some (.val d) => some d
  | some (.own (.lst ds)) => some (.list ds)
  | _ => none
section
variable {X : Cx} {C : Ct} {σ : L2.St} {H : Hp} {s : S} {F : Hp}
/-- what is looked at: the value in the slot, its items -/
inductive Pk (C : Ct) (H F : Hp) : V → D → Prop
  | val {v : V} {d : D} (h : Rp C.K F v d) : Pk C H F v d
  | own {a : Addr} {vs : List V} {ds : List D} (h : H a = some (.lst vs)) (r : RpAll C.K F vs ds) : Pk C H F (.ref a) (.list ds)
theorem peek_ok (R : Rel C σ H s F) {i : Nat} {d : D} (h : peek s i = some d) : ∃ v, σ[i]? = some (some v) ∧ Pk C H F v d := by
  unfold peek at h
  split at h
  · rename_i d' q
    cases h
    obtain ⟨u, e1, e2⟩ := R.sl i _ q
    exact ⟨u, getD_some e1, .val e2⟩
  · rename_i ds q
    cases h
    obtain ⟨a, ho, e1, e2, e3, e4, e5, e6, e7⟩ := R.sl i _ q
    obtain ⟨vs, rfl, e6⟩ := owR_lst e6
    exact ⟨_, getD_some e1, .own e5 e6⟩
  · cases h
theorem dp0s_sub {K : PySem.W.Frag} {F F' : Hp} (e : Sub F F') {d : List D} {v : List V} (h : DpAll K F v d) : DpAll K F' v d := h.rec (motive_1 := fun v d _ => Dp K F' v d) (motive_2 := fun vs ds _ => DpAll K F' vs ds)
  .non .bl .int .str (fun h _ r => .lst (sqL_sub e h) r) (fun h _ r => .tup (sqT_sub e h) r) .nil (fun _ _ h r => .cons h r)
theorem pk_dp {v : V} {d : D} (e : Sub F H) (h : Pk C H F v d) : Dp C.K H v d := by
  cases h with
  | val h => exact dp0_sub e (rp_dp h)
  | own h r => exact .lst (SqL.of h) (dp0s_sub e (rps_dp r))
/-- .. as a list or tuple -/
theorem pk_seq {v : V} {d : D} (R : Rel C σ H s F) (h : Pk C H F v d) : (∀ ds, d = .list ds → ∃ a vs, v = .ref a ∧ H a = some (.lst vs) ∧ RpAll C.K F vs ds) ∧ (∀ ds, d = .tuple ds → ∃ a vs, v = .ref a ∧ H a = some (.tup vs) ∧ F a = some (.tup vs) ∧ RpAll C.K F vs ds) := by
  cases h with
  | val h =>
    refine ⟨fun ds e => ?_, fun ds e => ?_⟩
    · subst e
      cases h with
      | lst sx ax => exact ⟨_, _, rfl, R.gr.fsub _ _ sx, ax⟩
    · subst e
      cases h with
      | tup sx ax => exact ⟨_, _, rfl, R.gr.fsub _ _ sx, sx, ax⟩
  | own h r =>
    refine ⟨fun ds e => ?_, fun ds e => ?_⟩
    · cases e; exact ⟨_, _, rfl, h, r⟩
    · cases e
def pkF {α : Type} (i : Nat) (m : M α) (f : D → α → Option D) : M D := fun s => if (peek s i).isSome = true then bnd m (fun y s' => match peek s' i with
  | some d => opt (f d y) s'
  | none => .bad) s else .bad
theorem td_pkF {α β : Type} {rep : Hp → β → α → Prop} {i : Nat} {m : M α} {f : D → α → Option D} {Q : VK} (h : TD C (pkF i m f) σ H Q) :
    ∃ v, σ[i]? = some (some v) ∧ TDG C rep m σ H fun b H' => ∃ d a r s F, Rel C σ H' s F ∧ Pk C H' F v d ∧ rep F b a ∧ f d a = some r ∧ Wn C σ s F r Q := by
  obtain ⟨s, F, R, h⟩ := h
  unfold pkF at h
  split at h
  · rename_i hs
    obtain ⟨d, ed⟩ := Option.isSome_iff_exists.mp hs
    obtain ⟨v, ev, _⟩ := peek_ok R ed
    refine ⟨v, ev, td_imp (td_bnd R h) fun b H2 ⟨a, s2, F2, R2, e2, r2, p2⟩ => ?_⟩
    cases q : peek s2 i with
    | none => simp only [q] at p2; exact p2.elim
    | some d2 =>
      simp only [q] at p2
      obtain ⟨v2, ev2, pk⟩ := peek_ok R2 q
      rw [ev] at ev2
      cases ev2
      obtain ⟨r, er, wr⟩ := post_opt p2
      exact ⟨d2, a, r, s2, F2, R2, pk, r2, er, wr⟩
  · exact h.elim
theorem de_pidx {i : Nat} {x : Str} {p pos : Pos} {b : Expr} {mb : M D} (hK : C.K = X.K) (hN : X.N[i]? = some x) (hv : Vis X.env.scope x) (hb : DE X C b mb) (hs : PlainIx b) (hd : (x == ("__debug__" : Str)) = false := by decide) (hcd : (x == ("__classdict__" : Str)) = false := by decide) :
    DE X C (.Subscript (.Name x p) b pos) (pkF i mb idxD) := fun P G => by
  refine PE.imp (pe_ix ix_seq (pe_var hN hv hd hcd) (hb P G) hs) fun σ H Q h => ?_
  obtain ⟨v, ev, t⟩ := td_pkF h
  refine ⟨v, ev, td_imp t fun y H2 ⟨d, e, r, s2, F2, R2, pk, dy, er, wr⟩ => ?_⟩
  replace hK : C.K = X.K := hK
  obtain ⟨q1, q2⟩ := pk_seq R2 pk
  unfold idxD at er
  split at er
  · obtain ⟨a, vs, rfl, g1, g2, g3⟩ := q2 _ rfl
    cases dy
    obtain ⟨w, ew, dw⟩ := dps_at g3 er
    refine .inr (.inl ⟨a, vs, _, w, rfl, rfl, SqT.of g1, ew, wr _ _ _ R2 (sub_refl F2) dw⟩)
  · obtain ⟨a, vs, rfl, g1, g3⟩ := q1 _ rfl
    cases dy
    obtain ⟨w, ew, dw⟩ := dps_at g3 er
    exact .inl ⟨a, vs, _, w, rfl, rfl, SqL.of g1, ew, wr _ _ _ R2 (sub_refl F2) dw⟩
  · cases er
def two {α β : Type} (a : M α) (b : M β) : M (α × β) := bnd a fun x => bnd b fun y => ret (x, y)
theorem de_psli {i : Nat} {x : Str} {p pos p2 : Pos} {lo hi : Option Expr} {ml mh : M (Option Int)} (hK : C.K = X.K) (hN : X.N[i]? = some x) (hv : Vis X.env.scope x) (hl : DO X C lo ml) (hh : DO X C hi mh) (hd : (x == ("__debug__" : Str)) = false := by decide) (hcd : (x == ("__classdict__" : Str)) = false := by decide) :
    DE X C (.Subscript (.Name x p) (.Slice lo hi none p2) pos) (pkF i (two ml mh) fun d y => sliD y.1 y.2 d) := fun P G => by
  refine PE.imp (pe_slice (SlR.or sl_list sl_tupA) (pe_var hN hv hd hcd) (hl P G) (hh P G)) fun σ H Q h => ?_
  obtain ⟨v, ev, t⟩ := td_pkF (rep := same) h
  refine ⟨v, ev, td_imp (tg_bnd t) fun l H2 ⟨l', s2, F2, R2, el, p2⟩ => td_imp (td_bnd R2 p2) fun u H3 ⟨u', s3, F3, R3, e3, eu, p3⟩ => ?_⟩
  cases el
  cases eu
  obtain ⟨d, e, r, s4, F4, R4, pk, ea, er, wr⟩ := p3 (l, u) H3 F3 R3 (sub_refl F3) rfl
  cases ea
  replace hK : C.K = X.K := hK
  obtain ⟨q1, q2⟩ := pk_seq R4 pk
  dsimp only at er
  cases d with
  | list ds =>
    obtain ⟨a, vs, rfl, g1, g3⟩ := q1 _ rfl
    simp only [sliD] at er
    cases er
    exact .inl ⟨a, vs, rfl, SqL.of g1, wn_lst R4 wr (dps_cut g3 l u)⟩
  | tuple ds =>
    obtain ⟨a, vs, rfl, g1, g2, g3⟩ := q2 _ rfl
    simp only [sliD] at er
    cases er
    refine .inr ⟨a, vs, rfl, SqT.of g1, fun z => ?_, fun z => wn_tup R4 wr (dps_cut g3 l u)⟩
    have e : cutD ds l u = ds := by
      unfold cutD
      rw [← dps_len g3, z.1, z.2, Nat.sub_zero, List.drop_zero, dps_len g3, List.take_length]
    rw [e] at wr
    exact wr _ _ _ R4 (sub_refl F4) (.tup g2 g3)
  | _ => simp only [sliD] at er; cases er
theorem de_plen {i : Nat} {x n : Str} {p p2 pos : Pos} (hK : C.K = X.K) (hg : Gl X n) (hm : X.mg n = none) (hvb : bootBuiltins n = some (.builtin "len")) (hN : X.N[i]? = some x) (hv : Vis X.env.scope x) (hn : n ≠ "__name__" := by decide) (hdb : (n == ("__debug__" : Str)) = false := by decide)
    (hd : (x == ("__debug__" : Str)) = false := by decide) (hcd : (x == ("__classdict__" : Str)) = false := by decide) (he : starEach [.Name x p2] X.env = (false, eval (.Name x p2) X.env) :: starEach [] X.env := by rfl) (hpl : (backTo pos (starEach [] X.env)).any (·.1) = false := by rfl) :
    DE X C (.Call (.Name n p) [.Name x p2] [] pos) (pkF i (ret ()) fun d _ => lenD [d]) := fun P G => by
  refine PE.imp (pe_callB call_len_seq hg hm hvb (pa_cons (pe_var hN hv hd hcd) pa_nil he) hn hdb he hpl) fun σ H Q h => ?_
  obtain ⟨v, ev, s, F, R, t⟩ := td_pkF (rep := same) h
  refine ⟨v, ev, ?_⟩
  obtain ⟨d, e, r, s4, F4, R4, pk, ea, er, wr⟩ := t () H F R (sub_refl F) rfl
  replace hK : C.K = X.K := hK
  obtain ⟨q1, q2⟩ := pk_seq R4 pk
  cases d with
  | list ds =>
    obtain ⟨a, vs, rfl, g1, g3⟩ := q1 _ rfl
    simp only [lenD] at er
    cases er
    exact ⟨a, vs, rfl, .inl (SqL.of g1), by rw [dps_len g3]; exact wn_int R4 wr⟩
  | tuple ds =>
    obtain ⟨a, vs, rfl, g1, g2, g3⟩ := q2 _ rfl
    simp only [lenD] at er
    cases er
    exact ⟨a, vs, rfl, .inr (SqT.of g1), by rw [dps_len g3]; exact wn_int R4 wr⟩
  | _ => simp only [lenD] at er; cases er

/-! ### new lists -/
def fLst (m : M (List D)) : M (List D) := bnd m fun ds => if ds.length ≤ lim then ret ds else bad
theorem tf_bnd {α β : Type} {rep : Hp → β → α → Prop} {m : M α} {k : α → M (List D)} {Q : VK} (R : Rel C σ H s F) (h : PostF C σ F (bnd m k s) Q) :
    TDG C rep m σ H fun v H' => ∃ d s' F', Rel C σ H' s' F' ∧ Sub F F' ∧ rep F' v d ∧ PostF C σ F' (k d s') Q := by
  refine ⟨s, F, R, ?_⟩
  unfold bnd at h
  cases q : m s with
  | ok d s' =>
    rw [q] at h
    intro v H' F' a b c
    refine ⟨d, s', F', a, b, c, ?_⟩
    dsimp only at h
    cases q2 : k d s' with
    | ok ds s2 => rw [q2] at h; exact fun a vs H2 F2 R2 e2 f ha r => h a vs H2 F2 R2 (sub_trans b e2) f ha r
    | exc n s2 => rw [q2] at h; exact h
    | bad => rw [q2] at h; exact h
  | exc n s' => rw [q] at h; exact h
  | bad => rw [q] at h; exact h
theorem pf_new {ds : List D} {vs : List V} {Q : VK} (R : Rel C σ H s F) (h : PostF C σ F (.ok ds s) Q) (r : RpAll C.K F vs ds) : ∀ p, H p = none → Q (.ref p) (upd H p (.lst vs)) := fun p hp =>
  h p vs _ F (rel_newU R hp (fun ps z => nomatch z)) (sub_refl F) (fresh_new R hp) upd_same r
theorem df_lst {es : List Expr} {m : M (List D)} {pos : Pos} (h : DA X C es m) : DF X C (.List es pos) (fLst m) := fun P G => by
  refine PE.imp (pe_lst (h P G)) fun σ H Q ⟨s, F, R, h⟩ => ?_
  refine td_imp (tf_bnd R h) fun vs H2 ⟨ds, s2, F2, R2, e2, dp2, p2⟩ => ?_
  by_cases hz : ds.length ≤ lim
  · rw [if_pos hz] at p2
    exact ⟨lim_line (by rw [dps_len dp2]; exact hz), pf_new R2 p2 dp2⟩
  · rw [if_neg hz] at p2; exact p2.elim
def asL (f : D → D → Option D) (x y : D) : M (List D) := match f x y with
  | some (.list ds) => ret ds
  | _ => bad
def catL : D → D → Option (List D)
  | .list xs, .list ys => if xs.length + ys.length ≤ lim then some (xs ++ ys) else none
  | _, _ => none
def optL (r : Option (List D)) : M (List D) := fun s => match r with
  | some d => .ok d s
  | none => .bad
def f2 (f : D → D → Option (List D)) (ma mb : M D) : M (List D) := bnd ma fun x => bnd mb fun y => optL (f x y)
theorem df_cat {a b : Expr} {ma mb : M D} {pos : Pos} (ha : DE X C a ma) (hb : DE X C b mb) : DF X C (.BinOp a .Add b pos) (f2 catL ma mb) := fun P G => by
  refine PE.imp (pe_op op_cat (ha P G) (hb P G)) fun σ H Q ⟨s, F, R, h⟩ => ?_
  refine td_imp (tf_bnd R h) fun v H2 ⟨d, s2, F2, R2, e2, dp2, p2⟩ => td_imp (tf_bnd R2 p2) fun w H3 ⟨e, s3, F3, R3, e3, dp3, p3⟩ => ?_
  have dp2' := dp_sub e3 dp2
  cases q : catL d e with
  | none => rw [q] at p3; exact p3.elim
  | some r =>
    rw [q] at p3
    unfold catL at q
    split at q
    · split at q
      · rename_i hz
        cases q
        cases dp2' with
        | lst sx ax =>
          cases dp3 with
          | lst sy ay =>
            refine ⟨_, _, _, _, rfl, rfl, R3.gr.fsub _ _ sx, R3.gr.fsub _ _ sy, lim_line (by rw [dps_len ax, dps_len ay]; exact hz), pf_new R3 p3 (dps_app ax ay)⟩
      · cases q
    · cases q
def repL : D → D → Option (List D)
  | .list xs, .int k => if k < 2 ^ 63 ∧ -(2 ^ 63) ≤ k ∧ xs.length * k.toNat ≤ lim then some (List.replicate k.toNat xs).flatten else none
  | _, _ => none
theorem df_rep {a b : Expr} {ma mb : M D} {pos : Pos} (ha : DE X C a ma) (hb : DE X C b mb) : DF X C (.BinOp a .Mult b pos) (f2 repL ma mb) := fun P G => by
  refine PE.imp (pe_op op_rep (ha P G) (hb P G)) fun σ H Q ⟨s, F, R, h⟩ => ?_
  refine td_imp (tf_bnd R h) fun v H2 ⟨d, s2, F2, R2, e2, dp2, p2⟩ => td_imp (tf_bnd R2 p2) fun w H3 ⟨e, s3, F3, R3, e3, dp3, p3⟩ => ?_
  have dp2' := dp_sub e3 dp2
  cases q : repL d e with
  | none => rw [q] at p3; exact p3.elim
  | some r =>
    rw [q] at p3
    unfold repL at q
    split at q
    · split at q
      · rename_i hz
        cases q
        cases dp2' with
        | lst sx ax =>
          cases dp3
          refine ⟨_, _, _, rfl, rfl, R3.gr.fsub _ _ sx, hz.2.1, hz.1, lim_line (by rw [dps_len ax]; exact hz.2.2), pf_new R3 p3 (dps_rep ax _)⟩
      · cases q
    · cases q
/-- list(x) -/
def lstOfL : List D → Option (List D)
  | [.list xs] => some xs
  | [.tuple xs] => some xs
  | _ => none
theorem df_list {x : Str} {p pos : Pos} {e : Expr} {m : M D} (hK : C.K = X.K) (hg : Gl X x) (hm : X.mg x = none) (hv : bootBuiltins x = some (.type "list")) (ha : DA X C [e] (aCons m aNil)) (hn : x ≠ "__name__" := by decide)
    (hdb : (x == ("__debug__" : Str)) = false := by decide) (he : starEach [e] X.env = (false, eval e X.env) :: starEach [] X.env := by rfl) (hpl : (backTo pos (starEach [] X.env)).any (·.1) = false := by rfl) : DF X C (.Call (.Name x p) [e] [] pos) (bnd (aCons m aNil) fun ds => optL (lstOfL ds)) := fun P G => by
  refine PE.imp (pe_callTy call_list_of hg hm hv (ha P G) hn hdb he hpl) fun σ H Q ⟨s, F, R, h⟩ => ?_
  refine td_imp (tf_bnd R h) fun vs H2 ⟨ds, s2, F2, R2, e2, dp2, p2⟩ => ?_
  replace hK : C.K = X.K := hK
  cases q : lstOfL ds with
  | none => rw [q] at p2; exact p2.elim
  | some r =>
    rw [q] at p2
    unfold lstOfL at q
    split at q
    · cases q
      obtain ⟨v, e, q⟩ := dps1 dp2
      subst e
      cases q with
      | lst sx ax => exact ⟨_, _, rfl, .inl (SqL.of (R2.gr.fsub _ _ sx)), pf_new R2 p2 ax⟩
    · cases q
      obtain ⟨v, e, q⟩ := dps1 dp2
      subst e
      cases q with
      | tup sx ax =>
        refine ⟨_, _, rfl, .inr ?_, pf_new R2 p2 ax⟩
        rw [← hK]; exact SqT.of (R2.gr.fsub _ _ sx)
    · cases q
end
end PL
set_option maxHeartbeats 2000000
namespace PL
open PySem PySem.Spec PyProof.Rows L2 LamX
/-! ### own lists changed -/
section
variable {X : Cx} {C : Ct}
theorem ts_bnd2 {α β : Type} {rep : Hp → β → α → Prop} {m : M α} {k : α → M Fl} {σ : L2.St} {H F : Hp} {s : S} {E : Ends} (R : Rel C σ H s F) (h : PostS C E (bnd m k s)) :
    TDG C rep m σ H fun v H' => ∃ d s' F', Rel C σ H' s' F' ∧ Sub F F' ∧ rep F' v d ∧ PostS C E (k d s') := by
  refine ⟨s, F, R, ?_⟩
  unfold bnd at h
  cases q : m s with
  | ok d s' =>
    rw [q] at h
    exact fun v H' F' a b c => ⟨d, s', F', a, b, c, h⟩
  | exc n s' => rw [q] at h; exact h
  | bad => rw [q] at h; exact h
def ownL (s : S) (i : Nat) : Option (List D) := match s.r[i]? with
  | some (.own (.lst ds)) => some ds
  | _ => none
theorem ownL_at {s : S} {i : Nat} {ds : List D} (h : ownL s i = some ds) : s.r[i]? = some (.own (.lst ds)) := by
  unfold ownL at h
  split at h
  · rename_i q; cases h; exact q
  · cases h
theorem ownL_ok {σ : L2.St} {H F : Hp} {s : S} (R : Rel C σ H s F) {i : Nat} {ds : List D} (h : ownL s i = some ds) : ∃ a vs, σ.getD i none = some (.ref a) ∧ H a = some (.lst vs) ∧ RpAll C.K F vs ds := by
  obtain ⟨a, ho, e1, e2, e3, e4, e5, e6, e7⟩ := R.sl i _ (ownL_at h)
  obtain ⟨vs, rfl, e6⟩ := owR_lst e6
  exact ⟨a, vs, e1, e5, e6⟩
/-- x.append(e) -/
def sApp (i : Nat) (m : M D) : M Fl := fun s => if (ownL s i).isSome = true then bnd m (fun d s' => match ownL s' i with
  | some ds => if ds.length < lim then .ok .nx { s' with r := s'.r.set i (.own (.lst (ds ++ [d]))) } else .bad
  | none => .bad) s else .bad
theorem ds_app {i : Nat} {x : Str} {e : Expr} {m : M D} {p apos cpos pos : Pos} (hN : X.N[i]? = some x) (hv : Vis X.env.scope x) (he : DE X C e m)
    (hd : (x == ("__debug__" : Str)) = false := by decide) (hcd : (x == ("__classdict__" : Str)) = false := by decide)
    (hbase : attributeBase (.Name x p) "append" X.env (eval (.Name x p) X.env) = eval (.Name x p) X.env := by rfl)
    (hfew : ((backTo cpos (starEach [e] X.env)).all (fun x => !x.1) && (backToKw cpos (keywordEach [] X.env)).all (fun x => x.1.isSome)
      && decide ([e].length + ([] : List Keyword).length + (if ([] : List Keyword).isEmpty then 0 else 1) < 30)) = true := by rfl)
    (hline : (apos.endLine == cpos.line) = true := by rfl) (hst : starEach [e] X.env = (false, eval e X.env) :: starEach [] X.env := by rfl) (hplain : (backTo cpos (starEach [] X.env)).any (·.1) = false := by rfl)
    (hs : swapsWith (.Call (.Attribute (.Name x p) "append" apos) [e] [] cpos) none pos.line X.env = pure false := by rfl) :
    DS X C (.Expr (.Call (.Attribute (.Name x p) "append" apos) [e] [] cpos) pos) (sApp i m) := fun G => by
  refine PS.imp (ps_expr (pe_bm PySem.F.plainAttrs_list PySem.F.slot_list_append PySem.F.type_list_append mt_append (pe_var hN hv hd hcd) (pa_cons (he C.P G) pa_nil hst) hbase hfew hline hst hplain) hs) fun E σ H ⟨s, F, R, h⟩ => ?_
  unfold sApp at h
  split at h
  · rename_i hs
    obtain ⟨ds, ed⟩ := Option.isSome_iff_exists.mp hs
    obtain ⟨a, vs, e1, e2, e3⟩ := ownL_ok R ed
    refine ⟨.ref a, getD_some e1, .inl ⟨rfl, vs, SqL.of e2⟩, ?_⟩
    refine td_imp (ts_bnd (rep := Rp C.K) R h) fun v H2 ⟨d, s2, F2, R2, dp, p⟩ => ?_
    cases q : ownL s2 i with
    | none => simp only [q] at p; exact p.elim
    | some es =>
      simp only [q] at p
      obtain ⟨a2, ws, g1, g2, g3⟩ := ownL_ok R2 q
      rw [e1] at g1
      cases g1
      split at p
      · rename_i hl
        refine ⟨a, ws, v, rfl, rfl, g2, lim_line' (by rw [dps_len g3]; omega), ?_⟩
        exact p _ _ F2 (rel_mut (ho' := .lst (ws ++ [v])) (ds' := .lst (es ++ [d])) R2 (ownL_at q) e1 (dps_app g3 (.cons dp .nil)))
      · exact p.elim
  · exact h.elim
/-- x[j] = e of an own list -/
def setI (ds : List D) (k : Int) (d : D) : Option (List D) := (ixN ds.length k).map fun j => ds.set j d
def sStI (i : Nat) (me mj : M D) : M Fl := bnd me fun d => fun s => if (ownL s i).isSome = true then bnd mj (fun y s' => match ownL s' i, y with
  | some ds, .int k => match setI ds k d with
    | some es => .ok .nx { s' with r := s'.r.set i (.own (.lst es)) }
    | none => .bad
  | _, _ => .bad) s else .bad
theorem ds_stI {i : Nat} {x : Str} {e j : Expr} {me mj : M D} {p pos' pos : Pos} (hN : X.N[i]? = some x) (hv : Vis X.env.scope x) (he : DE X C e me) (hj : DE X C j mj) (hd : (x == ("__debug__" : Str)) = false := by decide) (hcd : (x == ("__classdict__" : Str)) = false := by decide)
    (ha : ∀ v, assign (.Subscript (.Name x p) j pos') X.env v = (do
      let ov ← holding [v] (eval (.Name x p) X.env)
      let iv ← holding [v, ov] (eval j X.env)
      standAt pos'
      holding [v, ov, iv] (setItem ov iv v)
      release [v, ov, iv] []) := by intro _; rfl)
    (hs : swapsWithSole [.Subscript (.Name x p) j pos'] e pos.line X.env = pure false := by rfl) (hw : swappedStores [.Subscript (.Name x p) j pos'] e X.env = pure none := by rfl)
    (h1 : (assignEach [.Subscript (.Name x p) j pos'] X.env).map (·.2) = [assign (.Subscript (.Name x p) j pos') X.env] := by rfl) :
    DS X C (.Assign [.Subscript (.Name x p) j pos'] e pos) (sStI i me mj) := fun G => by
  refine PS.imp (ps_asg (he C.P G) (pg_sub (pe_var hN hv hd hcd) (hj C.P G) set_list ha) hs hw h1) fun E σ H h => ?_
  refine td_imp (ts_bnd' h) fun v H2 ⟨d, s2, F2, R2, dp, p⟩ => ?_
  split at p
  · rename_i hs2
    obtain ⟨ds, ed⟩ := Option.isSome_iff_exists.mp hs2
    obtain ⟨a, vs, e1, e2, e3⟩ := ownL_ok R2 ed
    refine ⟨.ref a, getD_some e1, ?_⟩
    refine td_imp (ts_bnd2 (rep := Rp C.K) R2 p) fun y H3 ⟨k, s3, F3, R3, e3', dk, p3⟩ => ?_
    cases q : ownL s3 i with
    | none => simp only [q] at p3; exact p3.elim
    | some es =>
      obtain ⟨a2, ws, g1, g2, g3⟩ := ownL_ok R3 q
      rw [e1] at g1
      cases g1
      cases dk with
      | int k =>
        simp only [q] at p3
        unfold setI at p3
        rw [← dps_len g3] at p3
        cases qi : ixN ws.length k with
        | none => rw [qi] at p3; exact p3.elim
        | some jj =>
          rw [qi] at p3
          refine ⟨a, ws, k, jj, rfl, rfl, g2, qi, ?_⟩
          exact p3 _ _ F3 (rel_mut (ho' := .lst (ws.set jj v)) (ds' := .lst (es.set jj d)) R3 (ownL_at q) e1 (dps_set (dp_sub e3' dp) jj g3))
      | _ => simp only [q] at p3; exact p3.elim
  · exact p.elim
/-! ### the cup -/
def hasC (s : S) (i : Nat) : Bool := match s.r[i]? with
  | some .cup => true
  | _ => false
theorem hasC_at {s : S} {i : Nat} (h : hasC s i = true) : s.r[i]? = some .cup := by
  unfold hasC at h
  split at h
  · assumption
  · cases h
/-- cup[j] -/
def eCup (i : Nat) (j : Bool) : M D := fun s => if hasC s i = true then .ok (.int (if j then s.c.2 else s.c.1)) s else .bad
theorem de_cup {i : Nat} {x : Str} {p p2 pos : Pos} {j : Bool} {n : Nat} (hN : X.N[i]? = some x) (hv : Vis X.env.scope x) (hs : PlainIx (.Constant (.int (if j then 1 else 0)) n p2)) (hd : (x == ("__debug__" : Str)) = false := by decide) (hcd : (x == ("__classdict__" : Str)) = false := by decide) :
    DE X C (.Subscript (.Name x p) (.Constant (.int (if j then 1 else 0)) n p2) pos) (eCup i j) := fun P G => by
  refine PE.imp (pe_ix ix_list (pe_var hN hv hd hcd) pe_int hs) fun σ H Q ⟨s, F, R, h⟩ => ?_
  unfold eCup at h
  split at h
  · rename_i hc
    have hc := hasC_at hc
    refine ⟨.ref C.c, getD_some (R.sl i _ hc), C.c, _, _, .int (if j then s.c.2 else s.c.1), rfl, rfl, SqL.of R.gr.cup, ?_, h _ H F R (sub_refl F) (.int _)⟩
    cases j <;> rfl
  · exact h.elim
/-- cup[j] = e -/
def sCup (i : Nat) (j : Bool) (m : M D) : M Fl := bnd m fun d => fun s => match hasC s i, d with
  | true, .int k => .ok .nx { s with c := if j then (s.c.1, k) else (k, s.c.2) }
  | _, _ => .bad
theorem ds_cup {i : Nat} {x : Str} {e : Expr} {me : M D} {p p2 pos' pos : Pos} {j : Bool} {n : Nat} (hN : X.N[i]? = some x) (hv : Vis X.env.scope x) (he : DE X C e me) (hd : (x == ("__debug__" : Str)) = false := by decide) (hcd : (x == ("__classdict__" : Str)) = false := by decide)
    (ha : ∀ v, assign (.Subscript (.Name x p) (.Constant (.int (if j then 1 else 0)) n p2) pos') X.env v = (do
      let ov ← holding [v] (eval (.Name x p) X.env)
      let iv ← holding [v, ov] (eval (.Constant (.int (if j then 1 else 0)) n p2) X.env)
      standAt pos'
      holding [v, ov, iv] (setItem ov iv v)
      release [v, ov, iv] []) := by intro _; rfl)
    (hs : swapsWithSole [.Subscript (.Name x p) (.Constant (.int (if j then 1 else 0)) n p2) pos'] e pos.line X.env = pure false := by rfl) (hw : swappedStores [.Subscript (.Name x p) (.Constant (.int (if j then 1 else 0)) n p2) pos'] e X.env = pure none := by rfl)
    (h1 : (assignEach [.Subscript (.Name x p) (.Constant (.int (if j then 1 else 0)) n p2) pos'] X.env).map (·.2) = [assign (.Subscript (.Name x p) (.Constant (.int (if j then 1 else 0)) n p2) pos') X.env] := by rfl) :
    DS X C (.Assign [.Subscript (.Name x p) (.Constant (.int (if j then 1 else 0)) n p2) pos'] e pos) (sCup i j me) := fun G => by
  refine PS.imp (ps_asg (he C.P G) (pg_sub (pe_var hN hv hd hcd) pe_int set_list ha) hs hw h1) fun E σ H h => ?_
  refine td_imp (ts_bnd' h) fun v H2 ⟨d, s2, F2, R2, dp, p⟩ => ?_
  cases q : hasC s2 i with
  | false => simp only [q] at p; exact p.elim
  | true =>
    have hc := hasC_at q
    cases dp with
    | int k =>
      simp only [q] at p
      refine ⟨.ref C.c, getD_some (R2.sl i _ hc), C.c, _, _, if j then 1 else 0, rfl, rfl, R2.gr.cup, by cases j <;> rfl, ?_⟩
      have R3 := rel_cup R2 (if j then (s2.c.1, k) else (k, s2.c.2))
      cases j <;> exact p _ _ F2 R3
    | _ => simp only [q] at p; exact p.elim
end
end PL
set_option maxHeartbeats 2000000
namespace PL
open PySem PySem.Spec PyProof.Rows L2 LamX
/-! ### own dicts with tuple keys -/
def keyD : D → Option Key
  | .int i => some (.inl i)
  | .str x => some (.inr x)
  | _ => none
def keysD : List D → Option (List Key)
  | [] => some []
  | d :: ds => match keyD d, keysD ds with
    | some k, some ks => some (k :: ks)
    | _, _ => none
theorem keysD_vs {K : PySem.W.Frag} {F : Hp} : ∀ {ds : List D} {vs : List V} {ks : List Key}, RpAll K F vs ds → keysD ds = some ks → vs = ks.map kV
  | [], _, ks, .nil, e => by cases e; rfl
  | d :: ds, _, ks, .cons h r, e => by
    unfold keysD at e
    cases q1 : keyD d with
    | none => rw [q1] at e; cases e
    | some k =>
      cases q2 : keysD ds with
      | none => rw [q1, q2] at e; cases e
      | some ks' =>
        rw [q1, q2] at e
        cases e
        rw [keysD_vs r q2]
        cases h <;> simp only [keyD] at q1 <;> cases q1 <;> rfl
def lookD {κ : Type} [DecidableEq κ] (kvs : List (κ × D)) (k : κ) : Option D := (kvs.find? fun kv => decide (kv.1 = k)).map (·.2)
def putD {κ : Type} [DecidableEq κ] (kvs : List (κ × D)) (k : κ) (v : D) : List (κ × D) :=
  if (kvs.any fun kv => decide (kv.1 = k)) = true then kvs.map (fun kv => if kv.1 = k then (kv.1, v) else kv) else kvs ++ [(k, v)]
abbrev RpKv {κ : Type} (K : PySem.W.Frag) (F : Hp) : List (κ × V) → List (κ × D) → Prop := Paired fun p q => p.1 = q.1 ∧ Rp K F p.2 q.2
theorem look_kv {κ : Type} [DecidableEq κ] {K : PySem.W.Frag} {F : Hp} {k : κ} : ∀ {vs : List (κ × V)} {ds : List (κ × D)}, RpKv K F vs ds → (valV vs k = none ∧ lookD ds k = none) ∨ ∃ v d, valV vs k = some v ∧ lookD ds k = some d ∧ Rp K F v d
  | _, _, .nil => .inl ⟨rfl, rfl⟩
  | p :: vs, q :: ds, .cons h r => by
    obtain ⟨h1, h2⟩ := h
    by_cases e : p.1 = k
    · refine .inr ⟨p.2, q.2, valV_pos e, ?_, h2⟩
      have e' : q.1 = k := by rw [← h1]; exact e
      simp [lookD, List.find?_cons, e']
    · have e' : ¬ q.1 = k := by rw [← h1]; exact e
      have l : lookD (q :: ds) k = lookD ds k := by simp [lookD, List.find?_cons, e']
      rw [valV_neg e, l]
      exact look_kv r
theorem any_kv {κ : Type} [DecidableEq κ] {K : PySem.W.Frag} {F : Hp} {k : κ} : ∀ {vs : List (κ × V)} {ds : List (κ × D)}, RpKv K F vs ds → (vs.any fun kv => decide (kv.1 = k)) = ds.any fun kv => decide (kv.1 = k)
  | _, _, .nil => rfl
  | p :: vs, q :: ds, .cons h r => by simp only [List.any_cons, any_kv r, h.1]
theorem map_kv {κ : Type} [DecidableEq κ] {K : PySem.W.Frag} {F : Hp} {k : κ} {v : V} {d : D} (hv : Rp K F v d) : ∀ {vs : List (κ × V)} {ds : List (κ × D)}, RpKv K F vs ds → RpKv K F (vs.map (fun kv => if kv.1 = k then (kv.1, v) else kv)) (ds.map (fun kv => if kv.1 = k then (kv.1, d) else kv))
  | _, _, .nil => .nil
  | p :: vs, q :: ds, .cons h r => by
    refine .cons ?_ (map_kv hv r)
    dsimp only
    rw [h.1]
    split
    · exact ⟨rfl, hv⟩
    · exact ⟨h.1, h.2⟩
theorem app_kv {κ : Type} {K : PySem.W.Frag} {F : Hp} {k : κ} {v : V} {d : D} (hv : Rp K F v d) : ∀ {vs : List (κ × V)} {ds : List (κ × D)}, RpKv K F vs ds → RpKv K F (vs ++ [(k, v)]) (ds ++ [(k, d)])
  | _, _, .nil => .cons ⟨rfl, hv⟩ .nil
  | _ :: _, _ :: _, .cons h r => .cons h (app_kv hv r)
theorem put_kv {κ : Type} [DecidableEq κ] {K : PySem.W.Frag} {F : Hp} {k : κ} {v : V} {d : D} (hv : Rp K F v d) {vs : List (κ × V)} {ds : List (κ × D)} (r : RpKv K F vs ds) : RpKv K F (putK vs k v) (putD ds k d) := by
  unfold putK putD
  rw [any_kv r]
  split
  · exact map_kv hv r
  · exact app_kv hv r
theorem kv_len {κ : Type} {K : PySem.W.Frag} {F : Hp} : ∀ {vs : List (κ × V)} {ds : List (κ × D)}, RpKv K F vs ds → vs.length = ds.length
  | _, _, .nil => rfl
  | _ :: _, _ :: _, .cons _ r => by simp [kv_len r]
def ownT (s : S) (i : Nat) : Option (List (List Key × D)) := match s.r[i]? with
  | some (.own (.dT kvs)) => some kvs
  | _ => none
theorem ownT_at {s : S} {i : Nat} {ds} (h : ownT s i = some ds) : s.r[i]? = some (.own (.dT ds)) := by
  unfold ownT at h
  split at h
  · rename_i q; cases h; exact q
  · cases h
section
variable {X : Cx} {C : Ct}
theorem ownT_ok {σ : L2.St} {H F : Hp} {s : S} (R : Rel C σ H s F) {i : Nat} {ds} (h : ownT s i = some ds) : ∃ a vs, σ.getD i none = some (.ref a) ∧ H a = some (.dT vs) ∧ RpKv C.K F vs ds := by
  obtain ⟨a, ho, e1, e2, e3, e4, e5, e6, e7⟩ := R.sl i _ (ownT_at h)
  obtain ⟨vs, rfl, e6⟩ := owR_dT e6
  exact ⟨a, vs, e1, e5, e6⟩
/-- e in x -/
def eDin (i : Nat) (neg : Bool) (m : M D) : M D := bnd m fun d => fun s => match ownT s i, d with
  | some kvs, .tuple ds => match keysD ds with
    | some k => .ok (.bool (if neg then !(lookD kvs k).isSome else (lookD kvs k).isSome)) s
    | none => .bad
  | _, _ => .bad
theorem td_din {i : Nat} {neg : Bool} {m : M D} {σ : L2.St} {H : Hp} {Q : VK} (h : TD C (eDin i neg m) σ H Q) :
    TD C m σ H fun y H1 => tVar i σ H1 fun x H2 => ∃ a o, x = .ref a ∧ DGet H2 a y o ∧ Q (.bl (if neg then !o.isSome else o.isSome)) H2 := by
  refine td_imp (tg_bnd h) fun v H2 ⟨d, s2, F2, R2, dp, p⟩ => ?_
  cases q : ownT s2 i with
  | none => simp only [q] at p; exact p.elim
  | some kvs =>
    obtain ⟨a, vs, e1, e2, e3⟩ := ownT_ok R2 q
    cases dp with
    | @tup b xs ds sx ax =>
      simp only [q] at p
      cases qk : keysD ds with
      | none => rw [qk] at p; exact p.elim
      | some k =>
        rw [qk] at p
        rw [keysD_vs ax qk] at sx
        refine ⟨.ref a, getD_some e1, a, valV vs k, rfl, DGet.t e2 (R2.gr.fsub _ _ sx), ?_⟩
        dsimp only at p
        rcases look_kv (k := k) e3 with ⟨g1, g2⟩ | ⟨w, d, g1, g2, _⟩
        · rw [g1]; rw [g2] at p; exact p _ H2 F2 R2 (sub_refl F2) (.bl _)
        · rw [g1]; rw [g2] at p; exact p _ H2 F2 R2 (sub_refl F2) (.bl _)
    | _ => simp only [q] at p; exact p.elim
theorem de_din {i : Nat} {x : Str} {e : Expr} {m : M D} {p pos : Pos} (hu : X.A.units + 1 < cLine) (hN : X.N[i]? = some x) (hv : Vis X.env.scope x) (he : DE X C e m) (h1 : behindInMarks .In (.Name x p) = false := by rfl) (hd : (x == ("__debug__" : Str)) = false := by decide) (hcd : (x == ("__classdict__" : Str)) = false := by decide) :
    DE X C (.Compare e [.In] [.Name x p] pos) (eDin i false m) := fun P G => PE.imp (pe_cmp (pc_din hu (he P G) (pe_var hN hv hd hcd)) h1) fun σ H Q h => td_din h
theorem dt_din {i : Nat} {x : Str} {e : Expr} {m : M D} {p pos : Pos} (hu : X.A.units + 1 < cLine) (hN : X.N[i]? = some x) (hv : Vis X.env.scope x) (he : DE X C e m) (h1 : behindInMarks .In (.Name x p) = false := by rfl) (hd : (x == ("__debug__" : Str)) = false := by decide) (hcd : (x == ("__classdict__" : Str)) = false := by decide) :
    DT X C (.Compare e [.In] [.Name x p] pos) (tV (eDin i false m)) := fun P G => PT.imp (pt_cmp (pc_din hu (he P G) (pe_var hN hv hd hcd)) h1) fun σ H Q h => td_din (td_tV h)
theorem de_dnin {i : Nat} {x : Str} {e : Expr} {m : M D} {p pos : Pos} (hu : X.A.units + 1 < cLine) (hN : X.N[i]? = some x) (hv : Vis X.env.scope x) (he : DE X C e m) (h1 : behindInMarks .NotIn (.Name x p) = false := by rfl) (hd : (x == ("__debug__" : Str)) = false := by decide) (hcd : (x == ("__classdict__" : Str)) = false := by decide) :
    DE X C (.Compare e [.NotIn] [.Name x p] pos) (eDin i true m) := fun P G => PE.imp (pe_cmp (pc_dnotin hu (he P G) (pe_var hN hv hd hcd)) h1) fun σ H Q h => td_din h
theorem dt_dnin {i : Nat} {x : Str} {e : Expr} {m : M D} {p pos : Pos} (hu : X.A.units + 1 < cLine) (hN : X.N[i]? = some x) (hv : Vis X.env.scope x) (he : DE X C e m) (h1 : behindInMarks .NotIn (.Name x p) = false := by rfl) (hd : (x == ("__debug__" : Str)) = false := by decide) (hcd : (x == ("__classdict__" : Str)) = false := by decide) :
    DT X C (.Compare e [.NotIn] [.Name x p] pos) (tV (eDin i true m)) := fun P G => PT.imp (pt_cmp (pc_dnotin hu (he P G) (pe_var hN hv hd hcd)) h1) fun σ H Q h => td_din (td_tV h)
/-- x[e] -/
def eDget (i : Nat) (m : M D) : M D := fun s => if (ownT s i).isSome = true then bnd m (fun d s => match ownT s i, d with
  | some kvs, .tuple ds => match keysD ds with
    | some k => match lookD kvs k with
      | some v => .ok v s
      | none => .bad
    | none => .bad
  | _, _ => .bad) s else .bad
theorem de_dget {i : Nat} {x : Str} {e : Expr} {m : M D} {p pos : Pos} (hu : X.A.units + 1 < cLine) (hN : X.N[i]? = some x) (hv : Vis X.env.scope x) (he : DE X C e m) (hs : NoSl e) (hd : (x == ("__debug__" : Str)) = false := by decide) (hcd : (x == ("__classdict__" : Str)) = false := by decide) :
    DE X C (.Subscript (.Name x p) e pos) (eDget i m) := fun P G => by
  refine PE.imp (pe_dget hu (pe_var hN hv hd hcd) (he P G) hs) fun σ H Q ⟨s, F, R, h⟩ => ?_
  unfold eDget at h
  split at h
  · rename_i hs
    obtain ⟨ds0, ed⟩ := Option.isSome_iff_exists.mp hs
    obtain ⟨a, vs, e1, e2, e3⟩ := ownT_ok R ed
    refine ⟨.ref a, getD_some e1, ?_⟩
    refine td_imp (td_bnd (rep := Rp C.K) R h) fun v H2 ⟨d, s2, F2, R2, _, dp, p⟩ => ?_
    cases q : ownT s2 i with
    | none => simp only [q] at p; exact p.elim
    | some kvs =>
      obtain ⟨a2, vs2, g1, g2, g3⟩ := ownT_ok R2 q
      rw [e1] at g1
      cases g1
      cases dp with
      | @tup b xs ds sx ax =>
        simp only [q] at p
        cases qk : keysD ds with
        | none => rw [qk] at p; exact p.elim
        | some k =>
          rw [qk] at p
          dsimp only at p
          rw [keysD_vs ax qk] at sx
          rcases look_kv (k := k) g3 with ⟨q1, q2⟩ | ⟨w, d, q1, q2, q3⟩
          · rw [q2] at p; exact p.elim
          · rw [q2] at p
            refine ⟨a, w, rfl, ?_, p _ H2 F2 R2 (sub_refl F2) q3⟩
            have := DGet.t (kvs := vs2) (k := k) g2 (R2.gr.fsub _ _ sx)
            rw [q1] at this
            exact this
      | _ => simp only [q] at p; exact p.elim
  · exact h.elim
/-- x[e] = v -/
def sDput (i : Nat) (mv me : M D) : M Fl := bnd mv fun d => fun s => if (ownT s i).isSome = true then bnd me (fun y s' => match ownT s' i, y with
  | some kvs, .tuple ds => match keysD ds with
    | some k => if kvs.length < lim then .ok .nx { s' with r := s'.r.set i (.own (.dT (putD kvs k d))) } else .bad
    | none => .bad
  | _, _ => .bad) s else .bad
theorem ds_dput {i : Nat} {x : Str} {e value : Expr} {mv me : M D} {p pos' pos : Pos} (hu : X.A.units + 1 < cLine) (hN : X.N[i]? = some x) (hv : Vis X.env.scope x) (hval : DE X C value mv) (he : DE X C e me) (hs : swapsWith value (some (.Subscript (.Name x p) e pos')) pos.line X.env = pure false := by rfl) (hd : (x == ("__debug__" : Str)) = false := by decide) (hcd : (x == ("__classdict__" : Str)) = false := by decide) :
    DS X C (.Assign [.Subscript (.Name x p) e pos'] value pos) (sDput i mv me) := fun G => by
  refine PS.imp (ps_dput hu (pe_var hN hv hd hcd) (he C.P G) (hval C.P G) hs) fun E σ H h => ?_
  refine td_imp (ts_bnd' h) fun v H2 ⟨d, s2, F2, R2, dp, p⟩ => ?_
  split at p
  · rename_i hs2
    obtain ⟨ds, ed⟩ := Option.isSome_iff_exists.mp hs2
    obtain ⟨a, vs, e1, e2, e3⟩ := ownT_ok R2 ed
    refine ⟨.ref a, getD_some e1, ?_⟩
    refine td_imp (ts_bnd2 (rep := Rp C.K) R2 p) fun y H3 ⟨k, s3, F3, R3, e3', dk, p3⟩ => ?_
    cases q : ownT s3 i with
    | none => simp only [q] at p3; exact p3.elim
    | some kvs =>
      obtain ⟨a2, vs2, g1, g2, g3⟩ := ownT_ok R3 q
      rw [e1] at g1
      cases g1
      cases dk with
      | @tup b xs ds sx ax =>
        simp only [q] at p3
        cases qk : keysD ds with
        | none => rw [qk] at p3; exact p3.elim
        | some k =>
          rw [qk] at p3
          dsimp only at p3
          split at p3
          · rename_i hl
            rw [keysD_vs ax qk] at sx
            refine ⟨a, _, rfl, DPut.t g2 (R3.gr.fsub _ _ sx) (by rw [kv_len g3]; exact Nat.lt_of_lt_of_le hl (lim_line (Nat.le_refl _))), ?_⟩
            exact p3 _ _ F3 (rel_mut (ho' := .dT (putK vs2 k v)) (ds' := .dT (putD kvs k d)) R3 (ownT_at q) e1 (put_kv (dp_sub e3' dp) g3))
          · exact p3.elim
      | _ => simp only [q] at p3; exact p3.elim
  · exact p.elim

/-! ### several names at once -/
inductive Ov where
  | val (d : D)
  | own (o : Ow)
def slOf : Ov → Sl
  | .val d => .val d
  | .own o => .own o
inductive RpOs (C : Ct) (σ : L2.St) (s : S) (F H : Hp) : List V → List Ov → Prop
  | nil : RpOs C σ s F H [] []
  | val {v : V} {d : D} {vs : List V} {os : List Ov} : Rp C.K F v d → RpOs C σ s F H vs os → RpOs C σ s F H (v :: vs) (.val d :: os)
  | own {a : Addr} {ho : HO} {o : Ow} {vs : List V} {os : List Ov} : Fresh C σ s F a → H a = some ho → OwR C.K F ho o → (∀ w ∈ vs, w ≠ .ref a) → RpOs C σ s F H vs os → RpOs C σ s F H (.ref a :: vs) (.own o :: os)
def PostOs (C : Ct) (σ : L2.St) (F : Hp) (r : Res (List Ov)) (Q : List V → Hp → Prop) : Prop :=
  match r with
  | .ok os s' => ∀ vs H' F', Rel C σ H' s' F' → Sub F F' → RpOs C σ s' F' H' vs os → Q vs H'
  | .exc n s' => ∀ H' F' A, Gr C H' F' s'.c → C.mg n = some (.ref A) → C.W (.ref A) none H'
  | .bad => False
def TDOs (C : Ct) (m : M (List Ov)) : TA := fun σ H Q => ∃ s F, Rel C σ H s F ∧ PostOs C σ F (m s) Q
def DOs (X : Cx) (C : Ct) (es : List Expr) (m : M (List Ov)) : Prop := ∀ P G, PA X es (TDOs { C with P := P, F0 := G } m)
def PostFo (C : Ct) (σ : L2.St) (F : Hp) (r : Res Ow) (Q : VK) : Prop :=
  match r with
  | .ok o s' => ∀ a ho H' F', Rel C σ H' s' F' → Sub F F' → Fresh C σ s' F' a → H' a = some ho → OwR C.K F' ho o → Q (.ref a) H'
  | .exc n s' => ∀ H' F' A, Gr C H' F' s'.c → C.mg n = some (.ref A) → C.W (.ref A) none H'
  | .bad => False
def TDFo (C : Ct) (m : M Ow) : TE := fun σ H Q => ∃ s F, Rel C σ H s F ∧ PostFo C σ F (m s) Q
/-- the expression e gives a new object -/
def DFo (X : Cx) (C : Ct) (e : Expr) (m : M Ow) : Prop := ∀ P G, PE X e (TDFo { C with P := P, F0 := G } m)
def fo (m : M (List D)) : M Ow := bnd m fun ds => ret (.lst ds)
theorem dfo_df {e : Expr} {m : M (List D)} (h : DF X C e m) : DFo X C e (fo m) := fun P G => by
  refine PE.imp (h P G) fun σ H Q ⟨s, F, R, p⟩ => ⟨s, F, R, ?_⟩
  unfold fo bnd at p
  cases q : m s with
  | ok ds s' =>
    rw [q] at p
    intro a vs H' F' R' e f ha r
    exact p a (.lst vs) H' F' R' e f ha r
  | exc n s' => rw [q] at p; exact p
  | bad => rw [q] at p; exact p
theorem dfo_dict {pos : Pos} : DFo X C (.Dict [] [] pos) (ret (.dT [])) := fun P G =>
  PE.imp pe_dnewT fun σ H Q ⟨s, F, R, p⟩ => fun a ha => p a (.dT []) _ F (rel_newU R ha (fun ps z => nomatch z)) (sub_refl F) (fresh_new R ha) upd_same .nil
/-- name = a new object -/
def sOwnO (i : Nat) (m : M Ow) : M Fl := bnd m fun o => put i (.own o)
theorem ds_ownO {i : Nat} {x : Str} {e : Expr} {m : M Ow} {pos' pos : Pos} (hN : X.N.Nodup) (hi : X.N[i]? = some x) (hx : Loc X.env.scope x) (he : DFo X C e m) (hs : swapsWith e (some (.Name x pos')) pos.line X.env = pure false := by rfl) (hf : X.fn x = true ∨ X.env.scope.names.lookup x = some .local := by first | exact .inl rfl | exact .inr rfl | assumption) :
    DS X C (.Assign [.Name x pos'] e pos) (sOwnO i m) := fun G => by
  refine PS.imp (ps_set hN hi hx (he C.P G) hs hf) fun E σ H ⟨s, F, R, h⟩ => ⟨s, F, R, ?_⟩
  unfold sOwnO bnd at h
  cases q : m s with
  | ok d s' =>
    rw [q] at h
    intro a ho H' F' R' e f ha r
    exact h _ _ F' (rel_setOwn R' f ha r)
  | exc n s' => rw [q] at h; exact h
  | bad => rw [q] at h; exact h
def oNil : M (List Ov) := ret []
def oVal (m : M D) (r : M (List Ov)) : M (List Ov) := bnd m fun d => bnd r fun os => ret (.val d :: os)
def oOwn (m : M Ow) (r : M (List Ov)) : M (List Ov) := bnd m fun d => bnd r fun os => ret (.own d :: os)
theorem dos_nil : DOs X C [] oNil := fun P G => PA.imp pa_nil fun σ H Q ⟨s, F, R, h⟩ => h [] H F R (sub_refl F) .nil
theorem to_bnd {σ : L2.St} {H F : Hp} {s : S} {α β : Type} {rep : Hp → β → α → Prop} {m : M α} {k : α → M (List Ov)} {Q : List V → Hp → Prop} (R : Rel C σ H s F) (h : PostOs C σ F (bnd m k s) Q) :
    TDG C rep m σ H fun v H' => ∃ d s' F', Rel C σ H' s' F' ∧ Sub F F' ∧ rep F' v d ∧ PostOs C σ F' (k d s') Q := by
  refine ⟨s, F, R, ?_⟩
  unfold bnd at h
  cases q : m s with
  | ok d s' =>
    rw [q] at h
    intro v H' F' a b c
    refine ⟨d, s', F', a, b, c, ?_⟩
    dsimp only at h
    cases q2 : k d s' with
    | ok ds s2 => rw [q2] at h; exact fun vs H2 F2 R2 e2 r => h vs H2 F2 R2 (sub_trans b e2) r
    | exc n s2 => rw [q2] at h; exact h
    | bad => rw [q2] at h; exact h
  | exc n s' => rw [q] at h; exact h
  | bad => rw [q] at h; exact h
theorem tdos_imp {σ : L2.St} {H : Hp} {m : M (List Ov)} {Q Q' : List V → Hp → Prop} (h : TDOs C m σ H Q) (i : ∀ vs H', Q vs H' → Q' vs H') : TDOs C m σ H Q' := by
  obtain ⟨s, F, R, h⟩ := h
  refine ⟨s, F, R, ?_⟩
  cases q : m s with
  | ok d s' => rw [q] at h; exact fun vs H' F' R' e r => i _ _ (h vs H' F' R' e r)
  | exc n s' => rw [q] at h; exact h
  | bad => rw [q] at h; exact h
theorem dos_val {e : Expr} {es : List Expr} {m : M D} {r : M (List Ov)} (he : DE X C e m) (hr : DOs X C es r) (hs : starEach (e :: es) X.env = (false, eval e X.env) :: starEach es X.env := by rfl) : DOs X C (e :: es) (oVal m r) := fun P G => by
  refine PA.imp (pa_cons (he P G) (hr P G) hs) fun σ H Q ⟨s, F, R, h⟩ => ?_
  refine td_imp (to_bnd R h) fun v H2 ⟨d, s2, F2, R2, e2, dp2, p2⟩ => ?_
  refine ⟨s2, F2, R2, ?_⟩
  unfold bnd at p2
  cases q : r s2 with
  | ok os s' =>
    rw [q] at p2
    exact fun vs H' F' R' e r => p2 (v :: vs) H' F' R' e (.val (dp_sub e dp2) r)
  | exc n s' => rw [q] at p2; exact p2
  | bad => rw [q] at p2; exact p2
theorem rpos_ne {σ : L2.St} {s : S} {F H : Hp} {vs : List V} {os : List Ov} {a : Addr} (r : RpOs C σ s F H vs os) (hf : F a = none) (hp : ∃ q ∈ C.P, q.1 = a) : ∀ w ∈ vs, w ≠ .ref a := by
  induction r with
  | nil => intro w h; cases h
  | val h r ih =>
    intro w hw
    rcases List.mem_cons.mp hw with z | z
    · subst z
      intro z
      subst z
      cases h with
      | lst h _ => rw [hf] at h; cases h
      | tup h _ => rw [hf] at h; cases h
    · exact ih w z
  | own f h o n r ih =>
    intro w hw
    rcases List.mem_cons.mp hw with z | z
    · subst z
      intro z
      cases z
      obtain ⟨q, hq, e⟩ := hp
      exact f.p q hq e
    · exact ih w z
theorem rpos_unpin {σ : L2.St} {s : S} {F H : Hp} {P : List (Addr × HO)} {q : Addr × HO} {vs : List V} {os : List Ov} (r : RpOs { C with P := q :: P } σ s F H vs os) : RpOs { C with P := P } σ s F H vs os := by
  induction r with
  | nil => exact .nil
  | val h r ih => exact .val h ih
  | own f h o n r ih => exact .own ⟨f.c, f.f, f.h0, fun q hq => f.p q (List.mem_cons_of_mem _ hq), f.o⟩ h o n ih
theorem dos_own {e : Expr} {es : List Expr} {m : M Ow} {r : M (List Ov)} (he : DFo X C e m) (hr : DOs X C es r) (hs : starEach (e :: es) X.env = (false, eval e X.env) :: starEach es X.env := by rfl) : DOs X C (e :: es) (oOwn m r) := fun P G => by
  have hr' : PA X es (fun σ H Q => ∃ P, TDOs { C with P := P, F0 := G } r σ H Q) := ⟨fun pos pins s σ H Q I ⟨P, q⟩ => (hr P G).run pos pins s σ H Q I q⟩
  refine PA.imp (pa_cons (he P G) hr' hs) fun σ H Q ⟨s, F, R, h⟩ => ?_
  refine ⟨s, F, R, ?_⟩
  unfold oOwn bnd at h
  cases q : m s with
  | exc n s' => rw [q] at h; exact h
  | bad => rw [q] at h; exact h
  | ok o s1 =>
    rw [q] at h
    dsimp only at h
    intro a ho H1 F1 R1 e1 f1 h1 o1
    have R2 := rel_pin (C := { C with F0 := G }) R1 ⟨f1.c, f1.f, f1.h0, f1.p, f1.o⟩ h1 (owR_mu o1).nt
    refine ⟨(a, ho) :: P, s1, F1, R2, ?_⟩
    cases q2 : r s1 with
    | exc n s' =>
      rw [q2] at h
      intro H' F' A g
      have h : PostOs { C with P := P, F0 := G } σ F (.exc n s') Q := h
      exact h H' F' A ⟨g.keep, g.there, g.tabs, g.cup, g.fc, g.fsub, g.f0, g.fnew, g.ftab, fun p hp => g.pin p (List.mem_cons_of_mem _ hp)⟩
    | bad => rw [q2] at h; exact h
    | ok os s2 =>
      rw [q2] at h
      intro vs H2 F2 R3 e2 r2
      obtain ⟨R4, g1, g2, g3, g4, g5⟩ := rel_unpin' (C := { C with F0 := G }) R3
      refine h (.ref a :: vs) H2 F2 R4 (sub_trans e1 e2) (.own ⟨g3, g2, g4, f1.p, g5⟩ g1 (owR_sub e2 o1) (rpos_ne r2 g2 ⟨_, List.mem_cons_self, rfl⟩) (rpos_unpin (C := { C with F0 := G }) r2))
def setAll {α : Type} : List α → List Nat → List α → List α
  | r, i :: is, k :: ks => setAll (r.set i k) is ks
  | r, _, _ => r
theorem rel_setAll {σ : L2.St} {s : S} {F H : Hp} {vs : List V} {os : List Ov} : ∀ {is : List Nat}, Rel C σ H s F → RpOs C σ s F H vs os → Rel C (setAll σ is (vs.map some)) H { s with r := setAll s.r is (os.map slOf) } F := by
  induction vs generalizing σ s os with
  | nil =>
    intro is R r
    cases r
    cases is <;> exact R
  | cons v vs ih =>
    intro is R r
    cases r with
    | @val v d vs os h r =>
      cases is with
      | nil => exact R
      | cons i is =>
        refine ih (s := { s with r := s.r.set i (.val d) }) (rel_set R h) ?_
        clear ih
        induction r with
        | nil => exact .nil
        | val h r ih => exact .val h ih
        | own f h1 o n r ih =>
          refine .own ⟨f.c, f.f, f.h0, f.p, fun j k e ho z => ?_⟩ h1 o n ih
          by_cases hj : j = i
          · subst hj
            have hl : j < s.r.length := by
              have := (List.getElem?_eq_some_iff.mp e).1
              simpa using this
            simp only [List.getElem?_set_self hl] at e
            cases e
            cases ho
          · simp only [List.getElem?_set_ne (Ne.symm hj)] at e
            rw [List.getD_eq_getElem?_getD, List.getElem?_set_ne (Ne.symm hj), ← List.getD_eq_getElem?_getD] at z
            exact f.o j k e ho z
    | @own a ho o vs os f h1 o1 n r =>
      cases is with
      | nil => exact R
      | cons i is =>
        refine ih (s := { s with r := s.r.set i (.own o) }) (rel_setOwn R f h1 o1) ?_
        clear ih
        induction r with
        | nil => exact .nil
        | val h r ih => exact .val h (ih fun w hw => n w (List.mem_cons_of_mem _ hw))
        | @own b hb ob vs os fb h1b obr nb r ih =>
          refine .own ⟨fb.c, fb.f, fb.h0, fb.p, fun j k e hk z => ?_⟩ h1b obr nb (ih fun w hw => n w (List.mem_cons_of_mem _ hw))
          by_cases hj : j = i
          · subst hj
            have hl : j < σ.length := by
              have := (List.getElem?_eq_some_iff.mp e).1
              rw [← R.len]
              simpa using this
            rw [List.getD_eq_getElem?_getD, List.getElem?_set_self hl] at z
            have z : some (V.ref a) = some (V.ref b) := z
            cases z
            exact n (.ref a) List.mem_cons_self rfl
          · simp only [List.getElem?_set_ne (Ne.symm hj)] at e
            rw [List.getD_eq_getElem?_getD, List.getElem?_set_ne (Ne.symm hj), ← List.getD_eq_getElem?_getD] at z
            exact fb.o j k e hk z
/-- the names at is take what the expressions give -/
def sPar (is : List Nat) (m : M (List Ov)) : M Fl := bnd m fun os => fun s => if os.length = is.length then .ok .nx { s with r := setAll s.r is (os.map slOf) } else .bad
theorem rpos_len {σ : L2.St} {s : S} {F H : Hp} {vs : List V} {os : List Ov} (r : RpOs C σ s F H vs os) : vs.length = os.length := by
  induction r with
  | nil => rfl
  | val h r ih => simp [ih]
  | own f h o n r ih => simp [ih]
theorem tos_bnd {E : Ends} {σ : L2.St} {H : Hp} {m : M (List Ov)} {k : List Ov → M Fl} (h : TDS C (bnd m k) E σ H) : TDOs C m σ H fun vs H' => ∃ os s' F', Rel C σ H' s' F' ∧ RpOs C σ s' F' H' vs os ∧ PostS C E (k os s') := by
  obtain ⟨s, F, R, h⟩ := h
  refine ⟨s, F, R, ?_⟩
  unfold bnd at h
  cases q : m s with
  | ok d s' => rw [q] at h; exact fun vs H' F' R' _ r => ⟨d, s', F', R', r, h⟩
  | exc n s' => rw [q] at h; exact h
  | bad => rw [q] at h; exact h
theorem len2 {α : Type} {l : List α} (h : l.length = 2) : ∃ a b, l = [a, b] := by
  match l, h with
  | [a, b], _ => exact ⟨a, b, rfl⟩
theorem len3 {α : Type} {l : List α} (h : l.length = 3) : ∃ a b c, l = [a, b, c] := by
  match l, h with
  | [a, b, c], _ => exact ⟨a, b, c, rfl⟩
theorem ds_par2 {i j : Nat} {x y : Str} {a b : Expr} {m : M (List Ov)} {px py pt pos : Pos} {kt k2 pt2} (hc : X.calm = true) (hN : X.N.Nodup) (hi : X.N[i]? = some x) (hj : X.N[j]? = some y) (hij : i ≠ j)
    (hx : X.env.scope.names.lookup x = some .local) (hy : X.env.scope.names.lookup y = some .local) (ha : DOs X C [a, b] m)
    (hw : swappedStores [.Tuple [.Name x px, .Name y py] kt pt] (.Tuple [a, b] k2 pt2) X.env = pure (some [x, y]))
    (hs : swapsWithSole [.Tuple [.Name x px, .Name y py] kt pt] (.Tuple [a, b] k2 pt2) pos.line X.env = pure false := by rfl) :
    DS X C (.Assign [.Tuple [.Name x px, .Name y py] kt pt] (.Tuple [a, b] k2 pt2) pos) (sPar [i, j] m) := fun G => by
  refine PS.imp (ps_par hc hN hi hj hij hx hy (ha C.P G) hw hs) fun E σ H h => ?_
  refine tdos_imp (tos_bnd h) fun vs H2 ⟨os, s2, F2, R2, r2, p⟩ => ?_
  split at p
  · rename_i hl
    obtain ⟨v, w, e⟩ := len2 (show vs.length = 2 by rw [rpos_len r2]; exact hl)
    subst e
    exact ⟨v, w, rfl, p _ _ F2 (rel_setAll (is := [i, j]) R2 r2)⟩
  · exact p.elim
theorem ds_par3 {i j l : Nat} {x y z : Str} {a b c : Expr} {m : M (List Ov)} {px py pz pt pos : Pos} {kt k2 pt2} (hc : X.calm = true) (hN : X.N.Nodup) (hi : X.N[i]? = some x) (hj : X.N[j]? = some y) (hl : X.N[l]? = some z) (hij : i ≠ j) (hil : i ≠ l) (hjl : j ≠ l)
    (hx : X.env.scope.names.lookup x = some .local) (hy : X.env.scope.names.lookup y = some .local) (hz : X.env.scope.names.lookup z = some .local) (ha : DOs X C [a, b, c] m)
    (hw : swappedStores [.Tuple [.Name x px, .Name y py, .Name z pz] kt pt] (.Tuple [a, b, c] k2 pt2) X.env = pure (some [x, y, z]))
    (hs : swapsWithSole [.Tuple [.Name x px, .Name y py, .Name z pz] kt pt] (.Tuple [a, b, c] k2 pt2) pos.line X.env = pure false := by rfl) :
    DS X C (.Assign [.Tuple [.Name x px, .Name y py, .Name z pz] kt pt] (.Tuple [a, b, c] k2 pt2) pos) (sPar [i, j, l] m) := fun G => by
  refine PS.imp (ps_par3 hc hN hi hj hl hij hil hjl hx hy hz (ha C.P G) hw hs) fun E σ H h => ?_
  refine tdos_imp (tos_bnd h) fun vs H2 ⟨os, s2, F2, R2, r2, p⟩ => ?_
  split at p
  · rename_i hl
    obtain ⟨v, w, u, e⟩ := len3 (show vs.length = 3 by rw [rpos_len r2]; exact hl)
    subst e
    exact ⟨v, w, u, rfl, p _ _ F2 (rel_setAll (is := [i, j, l]) R2 r2)⟩
  · exact p.elim
/-- names of any kind: the tuple is made, then taken apart -/
inductive GNames (X : Cx) : List Expr → List Nat → TGs → Prop
  | nil : GNames X [] [] gNil
  | cons {i : Nat} {x : Str} {p : Pos} {es : List Expr} {is : List Nat} {t : TGs} : PG X (.Name x p) (gName i) → GNames X es is t → ((assignEach (.Name x p :: es) X.env).map (·.2) = assign (.Name x p) X.env :: (assignEach es X.env).map (·.2)) → GNames X (.Name x p :: es) (i :: is) (gCons (gName i) t)
theorem gnames_pgs {es : List Expr} {is : List Nat} {t : TGs} (h : GNames X es is t) : PGs X es t := by
  induction h with
  | nil => exact pgs_nil
  | cons a b c ih => exact pgs_cons a ih c
theorem gnames_run {es : List Expr} {is : List Nat} {t : TGs} (h : GNames X es is t) : ∀ {vs : List V} {σ : L2.St} {H : Hp} {Q : L2.St → Hp → Prop}, vs.length = is.length → Q (setAll σ is (vs.map some)) H → t vs σ H Q := by
  induction h with
  | nil =>
    intro vs σ H Q hl q
    cases vs with
    | nil => exact ⟨rfl, q⟩
    | cons _ _ => cases hl
  | cons a b c ih =>
    intro vs σ H Q hl q
    cases vs with
    | nil => cases hl
    | cons v vs => exact ⟨v, vs, rfl, ih (by simpa using hl) q⟩
theorem rpos_upd {σ : L2.St} {s : S} {F H : Hp} {vs : List V} {os : List Ov} {A : Addr} {u : HO} (hA : H A = none) (r : RpOs C σ s F H vs os) : RpOs C σ s F (upd H A u) vs os := by
  induction r with
  | nil => exact .nil
  | val h r ih => exact .val h ih
  | own f h o n r ih => exact .own f (upd_ext hA _ _ h) o n ih
theorem ds_parN {es tg : List Expr} {is : List Nat} {t : TGs} {m : M (List Ov)} {kt k2 : Nat} {pt pt2 pos : Pos} {n : Nat} (hc : X.calm = true) (hg : GNames X tg is t) (ha : DOs X C es m) (hle : n ≤ lim)
    (hn : (assignEach tg X.env).length = n := by rfl) (hst : (assignEach tg X.env).findIdx? (·.1) = none := by rfl) (hlen : is.length = n := by rfl)
    (hs : swapsWithSole [.Tuple tg kt pt] (.Tuple es k2 pt2) pos.line X.env = pure false := by rfl) (hw : swappedStores [.Tuple tg kt pt] (.Tuple es k2 pt2) X.env = pure none := by rfl)
    (h1 : (assignEach [.Tuple tg kt pt] X.env).map (·.2) = [assign (.Tuple tg kt pt) X.env] := by rfl) : DS X C (.Assign [.Tuple tg kt pt] (.Tuple es k2 pt2) pos) (sPar is m) := fun G => by
  refine PS.imp (ps_asg (pe_tup (ha C.P G)) (pg_tup hc (gnames_pgs hg) hn hst) hs hw h1) fun E σ H h => ?_
  refine tdos_imp (tos_bnd h) fun vs H2 ⟨os, s2, F2, R2, r2, p⟩ => ?_
  split at p
  · rename_i hl
    have hl2 := rpos_len r2
    have hl3 : vs.length = is.length := by omega
    refine ⟨?_, fun A hA => ⟨A, vs, rfl, SqT.of upd_same, by rw [hl3, hlen], gnames_run hg hl3 ?_⟩⟩
    · rw [hl3, hlen]; exact lim_line hle
    · exact p _ _ F2 (rel_setAll (rel_newU (o := .tup vs) R2 hA (fun ps z => nomatch z)) (rpos_upd hA r2))
  · exact p.elim
end
end PL
set_option maxHeartbeats 2000000
/-! ### ends of walks while an exception is handled -/
namespace PL
open PySem PySem.Spec PyProof.Rows L2 LamX HotX
section
variable {prog : Program} {w : World} {A : Around} {E : Value → Shared → Prop} {s : Shared}
theorem hot_keep {x1 : Addr} {h h' : Heap} (hot : HotAt A x1 h) (k : ∀ o, h.get? x1 = some o → h'.get? x1 = some o) : HotAt A x1 h' := by
  obtain ⟨a, o, vs, e, b, c⟩ := hot
  exact ⟨a, o, vs, k o e, b, c⟩
/-- a record of two fields is not the exception -/
theorem hot_ne {x1 it : Addr} {h : Heap} {o : Obj} {u v : Value} (hot : HotAt A x1 h) (e : h.get? it = some o) (d : o.data = .fields #[u, v]) : x1 ≠ it := fun z => by
  obtain ⟨_, o1, vs, e1, d1, c1⟩ := hot
  subst z
  rw [e] at e1
  cases e1
  rw [d] at d1
  cases d1
  cases c1
theorem stop_hot {α : Type} {x1 : Addr} {Q : α → Shared → Prop} (hot : HotAt A x1 s.heap)
    (k : ∀ a h', (∀ b o, s.heap.get? b = some o → h'.get? b = some o) → Shared.TypeIs { s with heap := h' } (.ref a) "StopIteration" → E (.ref a) { s with heap := h' }) :
    wpAny (model prog w) A (newExc (.type "StopIteration") [] >>= fun e => (raiseNew e : Sem α)) Q E s := by
  have up : ∀ {h : Heap} {o : Obj}, HotAt A x1 h → HotAt A x1 (h.push o) := fun z => hot_keep z fun _ e => Heap.get?_push_of_some _ e
  refine wpAny_bind ?_
  simp only [newExc, newTuple]
  refine wpAny_bind (wpAny_newObj_type ?_ (by size_fits))
  refine wpAny_bind (m := firstArgMember _ _) (wpAny_of_eq (a := Value.none) (by simp only [firstArgMember]; rfl) ?_)
  refine wpAny_newObj_type ?_ (by size_fits)
  have hot2 := up (o := { cls := .type "tuple", data := .seq ([] : List Value).toArray }) hot
  obtain ⟨_, o1, vs1, h1, _, _⟩ := id hot2
  refine raiseNew_hot (up hot2) (Nat.ne_of_lt (Heap.lt_size h1)) (Heap.get?_push_size _ rfl) rfl ?_ (k _ _ (fun b o e => ?_) ⟨_, Heap.get?_update_self _ (Heap.get?_push_size _ rfl) rfl, rfl⟩)
  · first
    | (simp; done)
    | (simp; omega)
    | (simp only [Array.size_append]; simp; omega)
  · have e2 := Heap.get?_push_of_some { cls := .type "tuple", data := .seq ([] : List Value).toArray } e
    refine Eq.trans (Heap.get?_update_other _ _ ?_) (Heap.get?_push_of_some _ e2)
    exact Nat.ne_of_gt (Heap.lt_size e2)
theorem nextL_hot {it l x1 : Addr} {i : Nat} {items : Array Value} {Q : Option Value → Shared → Prop} (hot : HotAt A x1 s.heap) (hit : s.heap.IsListIter it l i) (hl : s.heap.IsList l items) (hx : items[i]? = none)
    (hQ : ∀ h', Heap.ExtBut it s.heap h' → Q none { s with heap := h' }) : wpAny (model prog w) A (pyNext (.ref it)) Q E s := by
  obtain ⟨o, ho, hc, hd⟩ := id hit
  obtain ⟨ol, hol, q1, nl, hdl⟩ := hl
  have n1 := hot_ne hot ho hd
  unfold pyNext
  refine wpAny_bind (wpAny_attempt (wpAny_callSpecial?_slot hit.typeIs slot_listiter_next (name := Str.ofString "__next__") (wpAny_call_entry slot_listiter_next hit.typeIs entry_listiter_next ?_ (args_listiter_next _))))
  show wpAny _ _ (bind (field (.ref it) 0) _) _ _ s
  refine wpAny_bind (wpAny_field (x := Value.ref l) ho hd rfl ?_)
  have nb : ¬ ((Value.ref l == Value.none) = true) := Bool.false_ne_true
  show wpAny _ _ (ite ((Value.ref l == Value.none) = true) _ _) _ _ s
  rw [if_neg nb]
  show wpAny _ _ (bind (field (.ref it) 1) _) _ _ s
  refine wpAny_bind (wpAny_field (x := Value.int i 0) ho hd rfl ?_)
  show wpAny _ _ (bind (seqItems? (.ref l)) _) _ _ s
  refine wpAny_bind (wpAny_seqItems hol hdl ?_)
  simp only [Int.toNat_natCast, hx]
  refine wpAny_bind (wpAny_rule (wpAny_bind (wpAny_setField ho hd (by simp) ?_)))
  refine stop_hot (x1 := x1) (hot_keep (A := A) hot fun o e => (Heap.get?_update_other _ _ (Ne.symm n1)).trans e) fun a h' kp ht => ?_
  refine wpAny_bind (wpAny_isInstance (b := true) (T := "StopIteration") ht isSubtype_stop (wpAny_pure (hQ h' fun b u hb e => ?_)))
  exact kp b u ((Heap.get?_update_other _ _ (Ne.symm hb)).trans e)
theorem nextT_hot {it l x1 : Addr} {i : Nat} {items : Array Value} {Q : Option Value → Shared → Prop} (hot : HotAt A x1 s.heap) (hit : s.heap.IsTupleIter it l i) (hl : s.heap.IsTuple l items) (hx : items[i]? = none)
    (hQ : ∀ h', Heap.ExtBut it s.heap h' → Q none { s with heap := h' }) : wpAny (model prog w) A (pyNext (.ref it)) Q E s := by
  obtain ⟨o, ho, hc, hd⟩ := id hit
  obtain ⟨ol, hol, q1, nl, hdl⟩ := hl
  have n1 := hot_ne hot ho hd
  unfold pyNext
  refine wpAny_bind (wpAny_attempt (wpAny_callSpecial?_slot hit.typeIs F.slot_tuple_iterator_next (name := Str.ofString "__next__") (wpAny_call_entry F.slot_tuple_iterator_next hit.typeIs F.entry_tuple_iterator_next ?_ (F.args_tuple_iterator_next_1 _))))
  show wpAny _ _ (bind (field (.ref it) 0) _) _ _ s
  refine wpAny_bind (wpAny_field (x := Value.ref l) ho hd rfl ?_)
  have nb : ¬ ((Value.ref l == Value.none) = true) := Bool.false_ne_true
  show wpAny _ _ (ite ((Value.ref l == Value.none) = true) _ _) _ _ s
  rw [if_neg nb]
  show wpAny _ _ (bind (field (.ref it) 1) _) _ _ s
  refine wpAny_bind (wpAny_field (x := Value.int i 0) ho hd rfl ?_)
  show wpAny _ _ (bind (seqItems? (.ref l)) _) _ _ s
  refine wpAny_bind (wpAny_seqItems hol hdl ?_)
  simp only [Int.toNat_natCast, hx]
  refine wpAny_bind (wpAny_rule (wpAny_bind (wpAny_setField ho hd (by simp) ?_)))
  refine stop_hot (x1 := x1) (hot_keep (A := A) hot fun o e => (Heap.get?_update_other _ _ (Ne.symm n1)).trans e) fun a h' kp ht => ?_
  refine wpAny_bind (wpAny_isInstance (b := true) (T := "StopIteration") ht isSubtype_stop (wpAny_pure (hQ h' fun b u hb e => ?_)))
  exact kp b u ((Heap.get?_update_other _ _ (Ne.symm hb)).trans e)
/-- a tuple taken apart -/
theorem apartT_hot {x1 t : Addr} {items : Array Value} {targets : List (Bool × (Value → Sem Unit))} {Q : Unit → Shared → Prop} (hot : HotAt A x1 s.heap) (ht : s.heap.IsTuple t items) (hn : targets.length = items.size) (hst : targets.findIdx? (·.1) = none)
    (k : ∀ h', Heap.ExtBut s.heap.objs.size s.heap h' → wpAny (model prog w) A (assignInOrder (targets.map (·.2)) items.toList) Q E { s with heap := h' }) : wpAny (model prog w) A (unpack (.ref t) targets) Q E s := by
  have hlt : t ≠ s.heap.objs.size := ht.elim fun o z => Nat.ne_of_lt (Heap.lt_size z.1)
  unfold unpack
  rw [hn, hst]
  refine wpAny_bind (wpAny_holding ?_)
  unfold unpackItems notIterableAtAll
  refine wpAny_bind (wpAny_bind (wpAny_specialOf ht.typeIs F.slot_tuple_iter.lookup (wpAny_pure ?_)))
  simp only [Bool.false_eq_true, if_false]
  refine wpAny_bind (wpAny_holding (wpAny_pyIter_tuple ht (wpAny_bind (wpAny_holding ?_))))
  refine wpAny_draw_tuple hlt items.size 0 _ _ ⟨_, Heap.get?_push_size _ rfl, rfl, rfl⟩ (ht.push _) (by omega) fun h1 it1 b1 => ?_
  rw [List.drop_zero, List.take_of_length_le (show items.toList.length ≤ items.size by simp), if_neg (by simp)]
  have t1 : h1.IsTuple t items := Heap.IsTuple.extBut (ht.push _) b1.extBut hlt
  have hot1 : HotAt A x1 h1 := hot_keep hot fun o e => b1.extBut x1 o (Nat.ne_of_lt (Heap.lt_size e)) (Heap.get?_push_of_some _ e)
  refine wpAny_bind (wpAny_holding (nextT_hot hot1 it1 t1 (by simp) fun h2 e2 => ?_))
  simp only [Option.isSome_none, Bool.false_eq_true, if_false]
  refine wpAny_pure (k h2 fun b o hb e => e2 b o hb (b1.extBut b o hb (Heap.get?_push_of_some _ e)))
end

section
variable {X : Cx} {tg : Expr}
open L2H
theorem turn_listH {P : Program} {w : World} {K : PySem.W.Frag} {tg : Expr} (a it : Addr) : TurnH P w K tg (Itl K a) [it] it (fun i h => h.IsListIter it a i) where
  mem := List.mem_singleton.mpr rfl
  obj := fun i h st b hb => by
    cases List.mem_singleton.mp hb
    obtain ⟨o, e, _, d⟩ := st
    exact ⟨o, e, fun v z => nomatch d.symm.trans z⟩
  keep := fun i h h' st k => st.at fun o e => k it (List.mem_singleton.mpr rfl) o e
  item := by
    rintro X rfl rfl rfl hc i pins s σ H E I hf st ⟨xs, x, hq, hx⟩
    obtain ⟨its, rv, p, hz⟩ := I.list hq
    obtain ⟨u, hu, ru⟩ := rv.get hx
    obtain ⟨f0, f1, f2, f3, f4, f5⟩ := hf it (List.mem_singleton.mpr rfl)
    refine wpAny_pyNext_list_item st p.isList (x := u) (by simpa using hu) fun h' st' sb => ⟨u, rfl, ?_⟩
    obtain ⟨o, e, c, d⟩ := id st'
    refine go_of (s := { s with heap := h' }) e c d (by decide) ⟨x, H, I.turned (t' := s.toks) (fun b o hb e => (sb.2 b hb).trans e) f0 f1 f3 f4 f5, ru, ⟨rfl, fun ys hy => ?_⟩, st', fun b hb => (hf b hb).1⟩
    cases I.list_inj hy hq
    exact hx
  done := by
    rintro X rfl rfl rfl hc i pins s σ H E I hf st ⟨xs, hq, hx⟩
    obtain ⟨its, rv, p, hz⟩ := I.list hq
    obtain ⟨f0, f1, f2, f3, f4, f5⟩ := hf it (List.mem_singleton.mpr rfl)
    obtain ⟨x1, hot⟩ := hc.at I
    have hl := rv.length
    exact nextL_hot hot st p.isList (by simp; omega) fun h' eb => ⟨rfl, I.turned (t' := s.toks) (fun b o hb e => eb b o hb e) f0 f1 f3 f4 f5⟩
  self := fun _ _ _ _ _ st h => wpAny_pyIter_listiter st h
theorem pi_listH {l : Expr} {tl : TE} (hl : PE X l tl) : PIH X tg l (iList X.K tl) := by
  refine ⟨fun pins s σ H R I h => thn (hl.run pins s σ H _ I h) ?_⟩
  rintro v s1 ⟨x, H1, I1, r1, a, rfl, ⟨xs, hq⟩, q⟩
  cases r1
  obtain ⟨its, rv, p, hz⟩ := I1.list hq
  refine wpAny_pyIter_list p.isList ⟨s1.heap.objs.size, [s1.heap.objs.size], _, _, H1, rfl, I1.kept (t' := s1.toks) fun b o e => Heap.get?_push_of_some _ e, turn_listH a _, ⟨_, Heap.get?_push_size _ rfl, rfl, rfl⟩, fun b hb => ?_, q⟩
  cases List.mem_singleton.mp hb
  exact I1.fpOk (Nat.le_refl _) (I1.hok.fresh (Nat.le_refl _))
theorem pg_tupH {es : List Expr} {k : Nat} {t : TGs} {n : Nat} {pos : Pos} (hc : HotC X) (h : PGs X es t)
    (hn : (assignEach es X.env).length = n := by rfl) (hst : (assignEach es X.env).findIdx? (·.1) = none := by rfl) : PG X (.Tuple es k pos) (gTup X.K n t) := by
  constructor
  rintro pins s σ H v u Q I r ⟨a, xs, rfl, hq, hl, hw⟩
  cases r
  obtain ⟨its, rv, ht, hz⟩ := I.tuple hq
  obtain ⟨x1, hot⟩ := hc.at I
  rw [PyProof.Rows.assign_Tuple]
  refine wpAny_bind (wpAny_standAt (apartT_hot hot (show s.heap.IsTuple a its.toArray from ht) (by simp [hn, ← hl, rv.length]) hst fun h' hx => ?_))
  exact h.run pins _ σ H xs _ Q (I.kept (t' := s.toks) fun b o e => hx b o (Nat.ne_of_lt (Heap.lt_size e)) e) (by simpa using rv) hw
/-! ### a list comprehension while an exception is handled -/
abbrev blkH (X : Cx) (s : Shared) (H : Hp) (sc : Scope) (ce : Env) (fp : List Addr) (pn : List (Addr × Obj)) : Cx := { X.blk s H sc ce fp with pn := pn }
theorem hot_blk {s : Shared} {H : Hp} {sc : Scope} {ce : Env} {fp : List Addr} {pn : List (Addr × Obj)} (h : HotC X) (hp : ∀ q ∈ X.pn, q ∈ pn) : HotC (blkH X s H sc ce fp pn) := by
  obtain ⟨p, a, b⟩ := h
  exact ⟨p, a, hp p b⟩
theorem blk_pins {s s1 : Shared} {H H1 : Hp} {σ : L2.St} {sc : Scope} {ce : Env} {fp : List Addr} {pn : List (Addr × Obj)} (I : Inv (X.blk s H sc ce fp) [] σ H1 s1)
    (h : ∀ p ∈ pn, s1.heap.get? p.1 = some p.2 ∧ H1 p.1 = none ∧ p.1 ≠ ce.locals ∧ p.1 ∉ frs X.stack ∧ ∀ v, p.2.data ≠ .cell v) : Inv (blkH X s H sc ce fp pn) [] σ H1 s1 :=
  ⟨⟨I.ok.mod, I.ok.kind, I.ok.glob, I.ok.blt, I.ok.above, I.ok.inj, I.ok.has, I.ok.cab, I.ok.hd, I.ok.frames, I.ok.stk, I.ok.exf, I.ok.bs, I.ok.bsz, I.ok.noex, I.ok.exfs, I.ok.funs, I.ok.frf⟩, I.os, I.bare, I.base, I.loc, I.cell, I.free, I.freeC, fun p hp => h p (by rw [List.append_nil] at hp; exact hp), I.hok, I.len⟩
abbrev Blks (X : Cx) (sc : Scope) (φ : Cx → Prop) : Prop := ∀ (s : Shared) (H : Hp) (c : Addr) (cl : List (Str × Addr)) (fp : List Addr) (pn : List (Addr × Obj)), (∀ q ∈ X.pn, q ∈ pn) → φ (blkH X s H sc (compEnvC sc cl c X.env) fp pn)
theorem pe_lcH {elt tg iter : Expr} {ifs : List Expr} {sc : Scope} {own : List (Str × Nat)} {pos : Pos} {wi : TI} {g : TG} {tt : TT} {te : TE} (hc : HotC X) (hN : X.N.Nodup) (hi : PIH X tg iter wi) (ok : BlkOk X.N X.env.scope sc own)
    (hg : Blks X sc fun Y => PG Y tg g) (ht : Blks X sc fun Y => PTs Y ifs tt) (he : Blks X sc fun Y => PE Y elt te) (hs : ∀ x, foldedSetIterable iter X.env x = pure x := by intro _; rfl) :
    PE X (.ListComp elt [⟨tg, iter, ifs, 0⟩] sc pos) (tLc wi g tt te (own.map (·.2))) := by
  constructor
  intro pins s σ H Q I h
  rw [eval_ListComp]
  have hfree : ∀ y ∈ sc.names, y.2 = .free → ∃ c, X.env.cells.lookup y.1 = some c := fun y hy e => (ok.free y hy e).elim (fun k => I.ok.has _ (.inl k)) fun k => I.ok.has _ (.inr k)
  refine wpAny_comprehension_free rfl hs (closure_ok hfree) ok.kind (fun y hy e => (ok.uniq y hy).trans (congrArg some e)) (thn (hi.run pins s σ H _ I h) fun xv s1 hx => thn hx ?_)
  rintro _ s2 ⟨it, fp, tn, J, H2, rfl, I2, T, st2, f2, q⟩
  refine wpAny_newObj_type (newEnv_comp ?_) (Nat.zero_le _)
  obtain ⟨W, ⟨m0, w0⟩, turn⟩ := q _ (I2.hok.fresh (Nat.le_refl _))
  obtain ⟨D, eD⟩ : ∃ D, s2.heap.objs.size = D := ⟨_, rfl⟩
  obtain ⟨s3, e3⟩ : ∃ s3 : Shared, { s2 with heap := s2.heap.push { cls := .type "list", data := .seq ([] : List Value).toArray } } = s3 := ⟨_, rfl⟩
  obtain ⟨H3, eH⟩ : ∃ H3, upd H2 D (.lst []) = H3 := ⟨_, rfl⟩
  have up3 : ∀ b o, s2.heap.get? b = some o → s3.heap.get? b = some o := fun b o e => by subst e3; exact Heap.get?_push_of_some _ e
  have I3 : Inv X pins σ H3 s3 := by
    subst e3 eH eD
    exact I2.laid (t' := s2.toks) (fun b o e => Heap.get?_push_of_some _ e) (Nat.le_refl _) ⟨Nat.zero_le _, [], 0, .nil, Heap.get?_push_size _ rfl⟩
  have sz : ∀ b ∈ fp, b < s2.heap.objs.size := fun b hb => (T.obj _ _ st2 b hb).elim fun o z => Heap.lt_size z.1
  have f3 : ∀ b ∈ fp, FpOk X pins H3 b ∧ b < s3.heap.objs.size := fun b hb => by
    refine ⟨⟨?_, (f2 b hb).2⟩, ?_⟩
    · rw [← eH, upd_ne (by rw [← eD]; exact Nat.ne_of_lt (sz b hb))]
      exact (f2 b hb).1
    · obtain ⟨o, z⟩ := T.obj _ _ st2 b hb
      exact Heap.lt_size (up3 b o z.1)
  have I4' := block_start I3 ok hN f3
  rw [eD] at w0 turn ⊢
  rw [eH] at w0
  have e3' := e3
  rw [e3] 
  have PG_ := hg s3 H3 s3.heap.objs.size (cellsFrom (s3.heap.objs.size + 1) sc.names (cloFrom X.env.cells sc.names [])) fp (X.pn ++ pins) fun q hq => List.mem_append_left _ hq
  have PT_ := ht s3 H3 s3.heap.objs.size (cellsFrom (s3.heap.objs.size + 1) sc.names (cloFrom X.env.cells sc.names [])) fp (X.pn ++ pins) fun q hq => List.mem_append_left _ hq
  have PE_ := he s3 H3 s3.heap.objs.size (cellsFrom (s3.heap.objs.size + 1) sc.names (cloFrom X.env.cells sc.names [])) fp (X.pn ++ pins) fun q hq => List.mem_append_left _ hq
  obtain ⟨ce, ec⟩ : ∃ ce, compEnvC sc (cellsFrom (s3.heap.objs.size + 1) sc.names (cloFrom X.env.cells sc.names [])) s3.heap.objs.size X.env = ce := ⟨_, rfl⟩
  have cL : ce.locals = s3.heap.objs.size := by rw [← ec]; rfl
  show codeAny _ _ (.compStart _ 0 (.ref it) (.ref D) (compEnvC sc (cellsFrom (s3.heap.objs.size + 1) sc.names (cloFrom X.env.cells sc.names [])) s3.heap.objs.size X.env)) (compPost _ _ _ _ _ (.ref D) s3.heap.objs.size) { s3 with heap := pushCells (s3.heap.push { cls := .type "dict", data := .dict #[] }) sc.names }
  rw [ec] at I4' PG_ PT_ PE_ ⊢
  obtain ⟨s4, e4⟩ : ∃ s4 : Shared, { s3 with heap := pushCells (s3.heap.push { cls := .type "dict", data := .dict #[] }) sc.names } = s4 := ⟨_, rfl⟩
  rw [e4] at I4' ⊢
  have up4 : ∀ b o, s3.heap.get? b = some o → s4.heap.get? b = some o := fun b o e => by rw [← e4]; exact pushCells_keeps _ _ _ _ (Heap.get?_push_of_some _ e)
  have I4 : Inv (blkH X s3 H3 sc ce fp (X.pn ++ pins)) [] (wipe σ (own.map (·.2))) H3 s4 := blk_pins I4' fun p hp => by
    obtain ⟨p1, p2, p3, p4, p5⟩ := I3.pin p hp
    refine ⟨up4 _ _ p1, p2, by rw [cL]; exact Nat.ne_of_lt (Heap.lt_size p1), fun hm => ?_, p5⟩
    exact (List.mem_cons.mp (I3.stkSub p.1 hm)).elim p3 p4
  have hcB : HotC (blkH X s3 H3 sc ce fp (X.pn ++ pins)) := hot_blk hc fun q hq => List.mem_append_left _ hq
  have st4 : tn 0 s4.heap := T.keep _ _ _ st2 fun b _ o e => up4 b o (up3 b o e)
  have stat : ∀ {σ' : L2.St} {H' : Hp} {s' : Shared}, Inv (blkH X s3 H3 sc ce fp (X.pn ++ pins)) [] σ' H' s' → (∀ b ∈ fp, H' b = none) → ∀ b ∈ fp, FpOk (blkH X s3 H3 sc ce fp (X.pn ++ pins)) [] H' b := fun {σ' H' s'} J hn b hb => by
    refine ⟨hn b hb, (J.ok.exf b hb).1, J.ok.exfs b hb, .inl hb, fun x c e => (J.ok.exf b hb).2 x c e, fun p hp => ?_⟩
    rw [List.append_nil] at hp
    exact (f3 b hb).1.2.2.2.2.2 p hp
  have loop : codeAny (model X.prog X.w) X.A (.compLoop (.ListComp elt [⟨tg, iter, ifs, 0⟩] sc pos) 0 (.ref it) (.ref D) ce) (compPost (model X.prog X.w) X.A X.xe none (EP X pins σ Q) (.ref D) s3.heap.objs.size) s4 := by
    refine compLoop_any (fun n s' => ∃ i H', Inv (blkH X s3 H3 sc ce fp (X.pn ++ pins)) [] (wipe σ (own.map (·.2))) H' s' ∧ tn i s'.heap ∧ (∀ b ∈ fp, H' b = none) ∧ W i n H') ?_ m0 ⟨0, H3, I4, st4, fun b hb => (f3 b hb).1.1, w0⟩
    rintro n s5 ⟨i, H5, I5, st5, n5, w5⟩
    rcases turn i n H5 w5 with ⟨stop, qq⟩ | ⟨go, Nx, hNx, step⟩
    · refine thnF (T.done (blkH X s3 H3 sc ce fp (X.pn ++ pins)) rfl rfl rfl hcB i [] s5 _ H5 (fun _ _ => False) I5 (stat I5 n5) st5 stop) ?_
      rintro _ s6 ⟨rfl, I6⟩
      have I7 : Inv X pins σ H5 s6 := I3.call' (ch := fp) I6.os I6.base I6.hok I6.bare fun b hb => ⟨(f3 b hb).1.2.2.2.1, (f3 b hb).1.2.1, (f3 b hb).1.2.2.2.2.1, (f3 b hb).1.2.2.2.2.2⟩
      have nC : H5 s3.heap.objs.size = none := cL ▸ I6.free
      obtain ⟨m, hn, _⟩ := I6.loc
      refine ⟨m, cL ▸ hn, fun h2 sb => ?_⟩
      obtain ⟨f0, f1, f2', f3', f4, f5⟩ := I3.fpOk (Nat.le_refl _) nC
      exact ⟨.ref D, H5, I7.turned (t' := s6.toks) (fun b o hb e => (sb.2 b hb).trans e) f0 f1 f3' f4 f5, rfl, qq⟩
    · refine thnF (T.item (blkH X s3 H3 sc ce fp (X.pn ++ pins)) rfl rfl rfl hcB i [] s5 _ H5 (fun _ _ => False) I5 (stat I5 n5) st5 go) ?_
      rintro _ s6 ⟨u, rfl, h6⟩
      refine thnF h6 fun _ s7 ⟨x, H7, I7, r7, y7, st7, n7⟩ => ?_
      refine thnF (PG_.run _ s7 _ H7 x u _ (I7.pinned (stat I7 n7) (T.obj _ _ st7)) r7 (step x H7 y7)) fun _ s8 ⟨σ8, H8, I8, hw8, q8⟩ => ?_
      refine thnF (PT_.run _ s8 σ8 H8 _ I8 q8) fun b s9 ⟨H9, I9, q9⟩ => ?_
      have fin : ∀ {s' : Shared} {H' : Hp}, Inv (blkH X s3 H3 sc ce fp (X.pn ++ pins)) ([] ++ pinsAt fp s7.heap) σ8 H' s' → Nx H' → ∃ m, m < n ∧ ∃ i H', Inv (blkH X s3 H3 sc ce fp (X.pn ++ pins)) [] (wipe σ (own.map (·.2))) H' s' ∧ tn i s'.heap ∧ (∀ b ∈ fp, H' b = none) ∧ W i m H' := fun {s' H'} J nx => by
        obtain ⟨m', hm, w'⟩ := hNx H' nx
        have pin' : ∀ b ∈ fp, ∀ o, s7.heap.get? b = some o → s'.heap.get? b = some o ∧ H' b = none := fun b hb o e => by
          obtain ⟨z1, z2, _⟩ := J.pin (b, o) (List.mem_append_right _ (List.mem_append_right _ (mem_pinsAt hb e)))
          exact ⟨z1, z2⟩
        refine ⟨m', hm, i + 1, H', Inv.weak (Inv.unpinned (pins := []) J) (by rw [← hw8, wipe_length]) (fun j v e => ?_), T.keep _ _ _ st7 fun b hb o e => (pin' b hb o e).1, fun b hb => ?_, w'⟩
        · rw [← hw8] at e
          exact (wipe_some e).1
        · obtain ⟨o, e, _⟩ := T.obj _ _ st7 b hb
          exact (pin' b hb o e).2
      cases b with
      | false => exact fin I9 q9
      | true => exact thnF (PE_.run _ s9 σ8 H9 _ I9 q9) fun z s10 ⟨yv, H10, I10, r10, acc, hD, hz, nx⟩ => app_ok (X := blkH X s3 H3 sc ce fp (X.pn ++ pins)) I10 hD hz r10 fun s11 I11 => fin I11 nx
  exact codeAny_compStart_list loop (T.self X.A 0 _ _ _ st4 loop)
end
end PL
set_option maxHeartbeats 2000000
/-! ### an except suite's expressions -/
namespace PL
open PySem PySem.Spec PyProof.Rows L2 LamX HotX L2H
section
variable {X : Cx} {C : Ct}
def DIH (X : Cx) (C : Ct) (tg iter : Expr) (m : M (List D)) : Prop := ∀ P G, PIH X tg iter (TDI { C with P := P, F0 := G } m)
theorem PIH.imp {tg iter : Expr} {t t' : TI} (h : PIH X tg iter t) (i : ∀ σ H R, t' σ H R → t σ H R) : PIH X tg iter t' := ⟨fun pins s σ H R I q => h.run pins s σ H R I (i σ H R q)⟩
def itL : D → M (List D)
  | .list ds => ret ds
  | _ => bad
theorem dih_lst {tg e : Expr} {m : M D} (hK : C.K = X.K) (he : DE X C e m) : DIH X C tg e (bnd m itL) := fun P G => by
  refine PIH.imp (pi_listH (he P G)) fun σ H R h => td_imp (ti_bnd h) fun v H2 ⟨d, s2, F2, R2, dp, p⟩ => ?_
  replace hK : C.K = X.K := hK
  cases dp with
  | @lst a vs ds sx ax =>
    refine ⟨a, rfl, ⟨vs, SqL.of (R2.gr.fsub _ _ sx)⟩, ?_⟩
    have g := gives_list (C := { C with P := P, F0 := G }) sx ax
    rw [← hK]
    exact p _ H2 F2 R2 (sub_refl F2) g
  | _ => exact p.elim
theorem df_lcH {elt tg iter : Expr} {ifs : List Expr} {scope : Scope} {own : List (Str × Nat)} {pos : Pos} {m : M (List D)} {ts : List Nat} {asg : D → M Unit} {tst : M Bool} {me : M D} (hc : HotC X) (hN : X.N.Nodup) (hi : DIH X C tg iter m) (ok : BlkOk X.N X.env.scope scope own)
    (hv : ∀ i ∈ ts, i ∈ own.map (·.2)) (hg : Blks X scope fun Y => DG Y C.nw tg ts asg) (ht : Blks X scope fun Y => TDTs Y C.nw ifs tst) (he : Blks X scope fun Y => DE Y C.nw elt me) (hs : ∀ x, foldedSetIterable iter X.env x = pure x := by intro _; rfl) :
    DF X C (.ListComp elt [⟨tg, iter, ifs, 0⟩] scope pos) (eLc m asg tst me (own.map (·.2))) := fun P G =>
  PE.imp (pe_lcH hc hN (hi P G) ok (fun s H A cl fp pn q => pg_any (hg s H A cl fp pn q)) (fun s H A cl fp pn q => pts_any (ht s H A cl fp pn q)) (fun s H A cl fp pn q => pe_any (he s H A cl fp pn q)) hs) fun σ H Q h => tlc_ok hv h
theorem dg_tupH {es : List Expr} {k n : Nat} {pos : Pos} {vs : List Nat} {r : List D → M Unit} (hK : C.K = X.K) (hc : HotC X) (h : DGs X C es vs r) (hn : (assignEach es X.env).length = n := by rfl) (hst : (assignEach es X.env).findIdx? (·.1) = none := by rfl) : DG X C (.Tuple es k pos) vs (gTn n r) := fun P G => by
  refine PG.imp (pg_tupH hc (h P G) hn hst) fun v σ H Q ⟨s, F, d, R, dp, h⟩ => ?_
  cases dp with
  | @tup a xs ds sx ax =>
    simp only [gTn] at h
    split at h
    · rename_i hz
      replace hK : C.K = X.K := hK
      refine ⟨a, xs, rfl, ?_, by rw [dps_len ax]; exact hz, s, F, ds, R, ax, h⟩
      rw [← hK]
      exact SqT.of (R.gr.fsub _ _ sx)
    · exact h.elim
  | _ => exact h.elim
/-- isinstance(e, c), e the exception at a -/
def eIsE (i : Nat) (a : Addr) (b : Bool) : M D := fun s => match s.r[i]? with
  | some (.fn a') => if a' = a then .ok (.bool b) s else .bad
  | _ => .bad
theorem de_isE {E A : Addr} {oe : Obj} {pn : List (Addr × Obj)} {x e T : Str} {cv : V} {u : Value} {b : Bool} {i : Nat} {p p1 p2 pos : Pos} (Ec : ExcC X.K E) (hz : Zc (.ref E) none oe) (hf : ∃ vs, oe.data = .fields vs)
    (hg : Gl X x) (hm : X.mg x = none) (hv : bootBuiltins x = some (.builtin "isinstance")) (hN : X.N[i]? = some e) (hV : Vis X.env.scope e) (hT : PE (X.suite A ((A, oe) :: pn)) (.Name T p2) (tC cv)) (hu : ∀ w, L2.RelV cv w → w = u) (hb : PySem.W.kitOne X.K (.ref E) u = some b)
    (hn : x ≠ "__name__" := by decide) (hdb : (x == ("__debug__" : Str)) = false := by decide) (hde : (e == ("__debug__" : Str)) = false := by decide) (hce : (e == ("__classdict__" : Str)) = false := by decide)
    (hst : starEach [.Name e p1, .Name T p2] X.env = (false, eval (.Name e p1) X.env) :: starEach [.Name T p2] X.env := by rfl) (hst2 : starEach [.Name T p2] X.env = (false, eval (.Name T p2) X.env) :: starEach [] X.env := by rfl) (hpl : (backTo pos (starEach [.Name T p2] X.env)).any (·.1) = false := by rfl) :
    DE (X.suite A ((A, oe) :: pn)) C (.Call (.Name x p) [.Name e p1, .Name T p2] [] pos) (eIsE i A b) := fun P G => by
  refine PE.imp (pe_callB (call_isE Ec hz hf) hg hm hv (pa_cons (pe_var hN hV hde hce) (pa_cons hT pa_nil hst2) hst) hn hdb hst hpl) fun σ H Q ⟨s, F, R, h⟩ => ?_
  unfold eIsE at h
  split at h
  · rename_i a' ea
    split at h
    · rename_i za
      subst za
      exact ⟨.ref a', getD_some (R.sl i _ ea), cv, u, b, rfl, hu, hb, h (.bl b) H F R (sub_refl F) (.bl b)⟩
    · exact h.elim
  · exact h.elim
/-- sep.join(a list of texts) -/
def strsD : List D → Option (List Str)
  | [] => some []
  | .str x :: ds => (strsD ds).map (x :: ·)
  | _ :: _ => none
theorem strs_of {K : PySem.W.Frag} {F : Hp} : ∀ {ds : List D} {vs : List V} {ys : List Str}, RpAll K F vs ds → strsD ds = some ys → vs = ys.map V.str
  | [], _, _, .nil, h => by cases h; rfl
  | .str x :: ds, _, ys, .cons h1 h2, h => by
    cases h1
    unfold strsD at h
    cases q : strsD ds with
    | none => rw [q] at h; cases h
    | some zs =>
      rw [q] at h
      cases h
      rw [List.map_cons, strs_of h2 q]
  | .none :: _, _, _, _, h => by cases h
  | .bool _ :: _, _, _, _, h => by cases h
  | .int _ :: _, _, _, _, h => by cases h
  | .list _ :: _, _, _, _, h => by cases h
  | .tuple _ :: _, _, _, _, h => by cases h
  | .dict _ :: _, _, _, _, h => by cases h
def joinD (a : Str) : D → Option D
  | .list ds => match strsD ds with
    | some ys => if (ys.map (·.length)).sum + ys.length * a.length ≤ 16777216 then some (.str (Txt.join a ys)) else none
    | none => none
  | _ => none
theorem de_join {a : Str} {j : Nat} {e : Expr} {m : M D} {p0 apos pos : Pos} (he : DE X C e m) (hs : starEach [e] X.env = [(false, eval e X.env)] := by rfl) (hbase : attributeBase (.Constant (.str a) j p0) "join" X.env (eval (.Constant (.str a) j p0) X.env) = eval (.Constant (.str a) j p0) X.env := by rfl) (hline : (apos.endLine == pos.line) = true := by rfl) :
    DE X C (.Call (.Attribute (.Constant (.str a) j p0) "join" apos) [e] [] pos) (e1 (joinD a) m) := fun P G => by
  refine PE.imp (pe_join pe_str (he P G) hs hbase hline) fun σ H Q ⟨s, F, R, h⟩ => ?_
  refine ⟨⟨a, rfl⟩, ?_⟩
  refine td_imp (td_bnd R h) fun v H2 ⟨d, s2, F2, R2, e2, dp, p⟩ => ?_
  obtain ⟨r, er, wr⟩ := post_opt p
  unfold joinD at er
  split at er
  · rename_i ds
    cases dp with
    | @lst b vs _ sx ax =>
      split at er
      · rename_i ys ey
        split at er
        · rename_i hz
          cases er
          have ev := strs_of ax ey
          subst ev
          exact ⟨a, b, ys, rfl, rfl, .inl (SqL.of (R2.gr.fsub _ _ sx)), hz, wr _ _ F2 R2 (sub_refl F2) (.str _)⟩
        · cases er
      · cases er
  · cases er
end
end PL
set_option maxHeartbeats 2000000
/-! ### a lambda made and called, its exceptions without a context -/
namespace PL
open PySem PySem.Spec PyProof.Rows L2 LamX HotX L2H
section
variable {X : Cx} {pins : List (Addr × Obj)} {σ : L2.St} {H : Hp} {s : Shared}
theorem tabS_more {H : Hp} {P c : Addr} {q : Str} {ps : Array Value} {pos : Pos} (hP : H P = some (.tbl ps)) (nC : H c = none) (ht : TriplesOk ps.toList) (ha : ∀ (pos : Pos) (cv : Value), codeAmong pos ps.toList = some cv → ∃ c, cv = .ref c ∧ H c = some (CodeO c q)) :
    TabS (upd (upd H P (.tbl (ps ++ #[rawInt pos.line, rawInt pos.col, .ref c]))) c (CodeO c q)) P q := by
  have eL : (ps ++ #[rawInt pos.line, rawInt pos.col, .ref c]).toList = ps.toList ++ [rawInt pos.line, rawInt pos.col, .ref c] := by simp
  refine ⟨_, by rw [upd_ne (ne_of_none hP nC), upd_same], by rw [eL]; exact PySem.TriplesOk_snoc _ _ _ _ ht, fun p' cv hcv => ?_⟩
  rw [eL] at hcv
  rcases among_app _ ht hcv with z | z
  · obtain ⟨c0, e1, e2⟩ := ha p' cv z
    refine ⟨c0, e1, ?_⟩
    rw [upd_ne (ne_of_none e2 nC), upd_ne (fun z => ?_)]
    · exact e2
    · rw [z, hP] at e2
      cases e2
  · exact ⟨c, z, upd_same⟩
/-- as lam_make2; and no place is given back -/
theorem lam_mk {T : List (Addr × Str)} {c P : Addr} {params : Arguments} {body : Expr} {sc : Scope} {pos : Pos} {E : Value → Shared → Prop} {Q : Value → Shared → Prop} (I : Inv X pins σ H s) (TB : TabB X.base X.mg c P) (hcode : X.env.code = .ref c)
    (hm : (P, X.env.qual ++ "<lambda>") ∈ T) (hu : ∀ p ∈ T, p.1 = P → p.2 = X.env.qual ++ "<lambda>") (hT : Tabs T H) (hdef : defaultsOf params X.env = ([], [])) (hfree : ∀ y ∈ sc.names, y.2 = .free → ∃ c, X.env.cells.lookup y.1 = some c)
    (h : ∀ (f c' : Addr) (pm ctv : Value) (H1 : Hp) (s' : Shared), Inv X pins σ H1 s' → ExtN H H1 → Tabs T H1 → (∀ b, H1 b = none → H b = none) →
      s'.heap.get? f = some (PySem.W.kla_obj "<lambda>" (X.env.qual ++ "<lambda>") params body sc (cloFrom X.env.cells sc.names []) pm c' ctv) → H1 f = none → f ∉ frs X.stack → H1 c' = some (CodeO c' (X.env.qual ++ "<lambda>")) → Q (.ref f) s') :
    wpAny (model X.prog X.w) X.A (eval (.Lambda params body sc pos) X.env) Q E s := by
  obtain ⟨ps, hP, ht, ha⟩ := hT _ hm
  have bP : s.heap.BuiltinsAt X.mg P := TB.bm.keeps I.bk
  have hP' := I.hok P _ hP
  have nofr : ∀ f, s.heap.objs.size ≤ f → f ∉ frs X.stack := fun f hf z => (List.mem_cons.mp (I.stkSub _ z)).elim (fun e => absurd (Nat.lt_of_lt_of_le (e ▸ I.lt) hf) (Nat.lt_irrefl _)) (I.nofs hf)
  refine PySem.W.kla_eval hdef ?_
  cases hc : codeAmong pos ps.toList with
  | some cv =>
    obtain ⟨c', rfl, hco⟩ := ha pos cv hc
    refine PySem.W.kla_makeFunctionHit (P := P) (c := c) (mg := X.mg) (ps := ps) (closure_ok hfree) I.ok.glob (I.mod.glob.keeps I.bk) hcode (TB.code.keeps I.bk) hP' ht hc bP fun ctv h' tk hx hsz => ?_
    refine h h'.objs.size c' ((X.mg "__name__").getD .none) ctv H { s with heap := h'.push _, toks := tk } ?_ (ExtN.refl H) hT (fun b z => z) (Heap.get?_push_size _ rfl) (I.hok.fresh hsz) (nofr _ hsz) hco
    exact I.kept fun b o e => Heap.get?_push_of_some _ (hx b o e)
  | none =>
    refine PySem.W.kla_makeFunction (P := P) (c := c) (mg := X.mg) (ps := ps) (closure_ok hfree) I.ok.glob (I.mod.glob.keeps I.bk) hcode (TB.code.keeps I.bk) hP' ht hc TB.gP bP ?_
    rintro c' ctv h' tk hx hge hlt ⟨_, oc, vs, t, ⟨rfl⟩, hoc, hd, hv⟩ htb
    have hsz := Nat.le_trans hge (Nat.le_of_lt hlt)
    have nC : H c' = none := I.hok.fresh hge
    have nPc := ne_of_none hP nC
    have hE : ExtN H (upd (upd H P (.tbl (ps ++ #[rawInt pos.line, rawInt pos.col, .ref c']))) c' (CodeO c' (X.env.qual ++ "<lambda>"))) := fun b o e n => by
      rw [upd_ne (ne_of_none e nC), upd_ne (fun z => by rw [z, hP] at e; cases e; exact n ps rfl)]
      exact e
    refine h h'.objs.size c' ((X.mg "__name__").getD .none) ctv _ _ (inv_table (t' := tk) (more := #[rawInt pos.line, rawInt pos.col, .ref c']) (h' := h'.push _) I hP (fun b o hb e => Heap.get?_push_of_some _ (hx b o hb e)) (Heap.get?_push_of_some _ htb) hge ⟨oc, vs, t, Heap.get?_push_of_some _ hoc, hd, hv⟩)
      hE (fun p hp => ?_) (fun b z => ?_) (Heap.get?_push_size _ rfl) ?_ (nofr _ hsz) upd_same
    · by_cases hb : p.1 = P
      · rw [hu p hp hb, hb]
        exact tabS_more hP nC ht ha
      · obtain ⟨ps', a1, a2, a3⟩ := hT p hp
        refine ⟨ps', by rw [upd_ne (ne_of_none a1 nC), upd_ne hb]; exact a1, a2, fun p' cv hcv => ?_⟩
        obtain ⟨c0, e1, e2⟩ := a3 p' cv hcv
        exact ⟨c0, e1, hE _ _ e2 codeO_ne⟩
    · by_cases hb : b = c'
      · rw [hb, upd_same] at z; cases z
      · rw [upd_ne hb] at z
        by_cases hb2 : b = P
        · rw [hb2, upd_same] at z; cases z
        · rw [upd_ne hb2] at z; exact z
    · rw [upd_ne (Nat.ne_of_gt hlt), upd_ne (Nat.ne_of_gt (Nat.lt_of_lt_of_le (Heap.lt_size hP') hsz))]
      exact I.hok.fresh hsz
/-- the context of a lambda's body -/
abbrev lamN (X : Cx) (A : Around) (outer : List Env) (s : Shared) (H : Hp) (E : XK) (sc : Scope) (f c' : Addr) : Cx :=
  (lamCx X A outer s H E sc f c').wish fun e s' => wpAny (model X.prog X.w) (A.deeper (lamEnv X sc s.heap.objs.size f c')) (leaving (lamEnv X sc s.heap.objs.size f c') e) (fun _ s'' => L2N.CX X.prog X.w outer H s E e s'') (fun e' s'' => L2N.CX X.prog X.w outer H s E e' s'') s'
theorem lamN_takes {A : Around} {outer : List Env} {E : XK} {sc : Scope} {f c' : Addr} : L2N.Takes (lamN X A outer s H E sc f c') (fun cls d _ H => E cls d H) := L2N.takes_of rfl rfl rfl rfl
abbrev gCx (X : Cx) (Ng : List Str) (q : Str) (sg : Scope) (g : Addr) (cdg : Value) (s : Shared) (H : Hp) : Cx := cxOf C8.CX0 X.prog X.w X.K X.mg X.base Ng q sg g cdg X.A X.stack s H C8.E0
theorem pe_actN {Ng : List Str} {qg : Str} {sg : Scope} {g f c' : Addr} {cdg pm ctv : Value} {params : Arguments} {body : Expr} {sc : Scope} {k i : Nat} {a : Str} {pn : List (Addr × Obj)} {xe : Value → Shared → Prop} {W : WX} {E : XK} {tb : TE} {p1 p2 : Pos}
    (I : Inv X pins σ H s) (L : LamS X.env.scope sc) (hf : s.heap.get? f = some (PySem.W.kla_obj "<lambda>" (X.env.qual ++ "<lambda>") params body sc (cloFrom X.env.cells sc.names []) pm c' ctv)) (hfn : H f = none) (hfr : f ∉ frs X.stack)
    (hbind : bindArgs (PySem.W.kla_fn "<lambda>" (X.env.qual ++ "<lambda>") params body sc (cloFrom X.env.cells sc.names []) pm (.ref c') ctv) ⟨[], []⟩ = pure [])
    (tk : L2N.Takes ((gCx X Ng qg sg g cdg s H).tr pn xe) W) (hW : ∀ cls d σ' H', E cls d H' → W cls d σ' H') (hr : Room (k + 1) (X.A.deeper (envOfC qg sg s.heap.objs.size g cdg)))
    (hbody : ∀ (A : Around) (outer : List Env) (s : Shared) (H : Hp), Room k (A.deeper (lamEnv X sc s.heap.objs.size f c')) → PE (lamN X A outer s H E sc f c') body tb)
    (hN : Ng[i]? = some a) (hv : Vis sg a) (hd : (a == ("__debug__" : Str)) = false := by decide) (hcd : (a == ("__classdict__" : Str)) = false := by decide) :
    PE ((gCx X Ng qg sg g cdg s H).tr pn xe) (.Call (.Name a p1) [] [] p2) (fun σZ HZ Q => σZ[i]? = some (some (.ref f)) ∧ HZ c' = some (CodeO c' (X.env.qual ++ "<lambda>")) ∧ tb σ HZ Q) := by
  constructor
  rintro pinsZ sZ σZ HZ Q IZ ⟨hs, hc, ht⟩
  refine wpAny_Call_Name_kw (thn ((pe_var (pos := p1) (i := i) hN hv hd hcd).run pinsZ sZ σZ HZ (fun v H1 => v = .ref f ∧ H1 = HZ) IZ ⟨.ref f, hs, rfl, rfl⟩) ?_)
  rintro u s1 ⟨_, _, I1, ru, rfl, eH⟩
  obtain rfl : u = Value.ref f := ru
  rw [eH] at I1
  have of1 := I1.base.keep f _ hf hfn hfr (fun z => nomatch (show f ∈ ([] : List Addr) from z))
  refine PySem.W.callWith_F0 ⟨_, _, _, _, of1⟩ (wpAny_call ?_)
  obtain ⟨⟨oc, vs, t, hoc, hdc, hvc⟩, _, _⟩ := I1.hok c' _ hc
  have key : codeAny (model X.prog X.w) (X.A.deeper (envOfC qg sg s.heap.objs.size g cdg)) (.call (.ref f) ⟨[], []⟩) (CR (L2N.CX X.prog X.w) (envOfC qg sg s.heap.objs.size g cdg :: X.stack) X.prog X.w HZ s1 Q E) s1 := by
    refine PySem.W.kla_callFunE hr.depth of1 rfl L.co L.gen rfl ⟨c', oc, vs, t, rfl, hoc, hdc, hvc⟩ ?_
    rw [hbind]
    refine wpAny_pure (wpAny_newFunctionEnv (fun y hy => (L.own y hy).2) (fun y hy => absurd hy (by simp)) (fun h1 hns hsb => ⟨I1.nolimit.fresh _ hsb, ?_⟩) L.kind)
    have kp : ∀ b o, s1.heap.get? b = some o → h1.get? b = some o := fun b o e => hsb.extBut b o (Nat.ne_of_lt (Heap.lt_size e)) (Heap.get?_push_of_some _ e)
    have J := (lam_start2 (A := X.A.deeper (envOfC qg sg s.heap.objs.size g cdg)) (outer := envOfC qg sg s.heap.objs.size g cdg :: X.stack) (E := E) (scope := sc) (f := f) (c' := c') (tk := s1.toks + ([] : List (Str × Value)).length) I L I1.env0 hr.hd I1.base hns kp).wish
      fun e s' => wpAny (model X.prog X.w) ((X.A.deeper (envOfC qg sg s.heap.objs.size g cdg)).deeper (lamEnv X sc s1.heap.objs.size f c')) (leaving (lamEnv X sc s1.heap.objs.size f c') e) (fun _ s'' => L2N.CX X.prog X.w (envOfC qg sg s.heap.objs.size g cdg :: X.stack) HZ s1 E e s'') (fun e' s'' => L2N.CX X.prog X.w (envOfC qg sg s.heap.objs.size g cdg :: X.stack) HZ s1 E e' s'') s'
    refine PySem.W.kla_codeExpr (wpAny_mono ((hbody _ _ s1 _ (hr.deeper _)).run [] _ _ _ Q J ht) ?_ fun e s' hq => hq)
    rintro v s' ⟨w', H', J', rv, q⟩
    exact ⟨w', H', J'.os, J'.bare, J'.base, J'.hok, rv, q⟩
  refine codeAny_mono key fun r s' hq => ?_
  cases r with
  | error e => exact L2N.passes_call tk hW pinsZ σZ _ s1 e s' I1 hq
  | ok fl =>
    cases fl with
    | ret u => exact I1.after hq
    | next => exact hq.elim
    | brk => exact hq.elim
    | cont => exact hq.elim
end
end PL
set_option maxHeartbeats 2000000
/-! ### the def that gets a lambda and tells what it raised -/
namespace PL
open PySem PySem.Spec PyProof.Rows L2 LamX HotX L2H
/-- a context that starts at H, F -/
abbrev atC (C : Ct) (H F : Hp) (E : XK) : Ct := ⟨C.K, C.mg, C.T, C.c, H, F, [], E⟩
abbrev noE : XK := fun _ _ _ => False
theorem gr_self {C : Ct} {H F : Hp} {k : Int × Int} {E : XK} (g : Gr C H F k) : Gr (atC C H F E) H F k :=
  ⟨fun _ _ e _ _ => e, fun _ e => e, g.tabs, g.cup, g.fc, g.fsub, sub_refl F, fun _ e _ => e, g.ftab, fun p hp => absurd hp (by simp)⟩
theorem gr_then {C : Ct} {H0 F0 H F H' F' : Hp} {k k' : Int × Int} {E E' : XK} (g : Gr (atC C H0 F0 E) H F k) (g' : Gr (atC C H F E') H' F' k') : Gr (atC C H0 F0 E) H' F' k' :=
  gr_call (C := atC C H0 F0 E) (s := ⟨[], k⟩) g g'
def hideO : Sl → Sl
  | .own _ => .un
  | k => k
theorem rel_hide {C : Ct} {σ : L2.St} {H F : Hp} {s : S} (R : Rel C σ H s F) (E : XK) : Rel (atC C H F E) σ H { s with r := s.r.map hideO } F := by
  have un : ∀ i k, (s.r.map hideO)[i]? = some k → isOwn k = false ∧ SlOk (atC C H F E) F H (σ.getD i none) k := fun i k e => by
    rw [List.getElem?_map] at e
    cases q : s.r[i]? with
    | none => rw [q] at e; cases e
    | some l =>
      rw [q] at e
      cases e
      have x := R.sl i l q
      cases l with
      | own o => exact ⟨rfl, trivial⟩
      | un => exact ⟨rfl, trivial⟩
      | val d => exact ⟨rfl, x⟩
      | cup => exact ⟨rfl, x⟩
      | fn a => exact ⟨rfl, x⟩
  refine ⟨gr_self R.gr, by rw [List.length_map]; exact R.len, fun i k e => (un i k e).2, fun i j a k l e _ o => ?_⟩
  rw [(un i k e).1] at o
  cases o
theorem rel_lam {C : Ct} {σ : L2.St} {H H1 F : Hp} {s : S} (R : Rel C σ H s F) (e : ExtN H H1) (t : Tabs C.T H1) (th : ∀ b, H1 b = none → H b = none) : Rel C σ H1 s F := by
  have g := R.gr
  refine ⟨⟨fun a o h1 h2 h3 => e a o (g.keep a o h1 h2 h3) h3, fun a h => g.there a (th a h), t, e _ _ g.cup (fun ps z => nomatch z), g.fc, fun a o h => e a o (g.fsub a o h) (g.ftab a o h), g.f0, g.fnew, g.ftab, fun p hp => ?_⟩, R.len, fun i k h => ?_, R.dis⟩
  · obtain ⟨p1, p2, p3, p4, p5⟩ := g.pin p hp
    exact ⟨e _ _ p1 p4, p2, p3, p4, p5⟩
  · have x := R.sl i k h
    cases k with
    | own o =>
      obtain ⟨a, ho, e1, e2, e3, e4, e5, e6, e7⟩ := x
      exact ⟨a, ho, e1, e2, e3, e4, e a ho e5 (owR_mu e6).nt, e6, e7⟩
    | un => exact x
    | val d => exact x
    | cup => exact x
    | fn a => exact x
/-- the def gives r from here on -/
def Gives1 (K : PySem.W.Frag) (mg : Str → Option Value) (T : List (Addr × Str)) (Q : VK) (r : D) (H : Hp) : Prop :=
  ∃ c F k, Gr ⟨K, mg, T, c, H, F, [], noE⟩ H F k ∧ ∀ v H' F', Gr ⟨K, mg, T, c, H, F, [], noE⟩ H' F' k → Rp K F' v r → Q v H'
def TTe (K : PySem.W.Frag) (mg : Str → Option Value) (T : List (Addr × Str)) (words : Option Str → Option D) (tl : XK → Hp → VK → Prop) (H : Hp) (Q : VK) : Prop :=
  tl (fun cls d H' => ∃ n A r, cls = .ref A ∧ d = none ∧ mg n = some (.ref A) ∧ words (some n) = some r ∧ Gives1 K mg T Q r H') H (fun _ H' => ∃ r, words none = some r ∧ Gives1 K mg T Q r H')
def GivesN (X : Cx) (T : List (Addr × Str)) (Ng : List Str) (x : Str) (sg : Scope) (g : Addr) (cdg : Value) (bg : List Stmt) (a q : Str) (words : Option Str → Option D) : Prop :=
  ∀ (f c' : Addr) (s : Shared) (H : Hp) (Q : VK) (tl : XK → Hp → VK → Prop),
    (∀ (W : WX) (pn : List (Addr × Obj)) (xe : Value → Shared → Prop) (E : XK) (p1 p2 : Pos), L2N.Takes ((gCx X Ng x sg g cdg s H).tr pn xe) W → (∀ cls d σ' H', E cls d H' → W cls d σ' H') →
      PE ((gCx X Ng x sg g cdg s H).tr pn xe) (.Call (.Name a p1) [] [] p2) (fun σZ HZ Q => σZ[0]? = some (some (.ref f)) ∧ HZ c' = some (CodeO c' q) ∧ tl E HZ Q)) →
    H c' = some (CodeO c' q) → TTe X.K X.mg T words tl H Q → ∃ t, PSs (gCx X Ng x sg g cdg s H).nox bg t ∧ t { nx := fun _ H' => Q .non H', rt := Q } (L2.start Ng [.ref f]) H
def eErr (words : Option Str → Option D) (m : M D) : M D := fun s =>
  match m { s with r := s.r.map hideO } with
  | .ok _ s' => match words none with
    | some r => .ok r { s with c := s'.c }
    | none => .bad
  | .exc n s' => match words (some n) with
    | some r => .ok r { s with c := s'.c }
    | none => .bad
  | .bad => .bad
section
variable {X : Cx} {C : Ct}
theorem de_err {words : Option Str → Option D} {x a : Str} {g c P : Addr} {k : Nat} {pg : Arguments} {bg : List Stmt} {sg : Scope} {dV kV doc pm cdv ct oc : Value} {an od : Option Addr} {osl : Array (Option Value)} {Ng : List Str}
    {params : Arguments} {body : Expr} {sc : Scope} {m : M D} {p lpos pos : Pos} (hg : Gl X x) (hm : X.mg x = some (.ref g)) (hk : PySem.W.keepIn X.K (.ref g) = true)
    (lk : X.K.lookup g = some ⟨oc, od, .func (PySem.W.fnOf x x pg bg sg dV kV doc pm an cdv ct), osl⟩) (hcg : PySem.W.codeIn X.K cdv x = true) (hb : L2.Binds X.K (PySem.W.fnOf x x pg bg sg dV kV doc pm an cdv ct) [a] []) (Sg : FnScope Ng [a] sg) (hNg : Ng[0]? = some a) (hva : Vis sg a)
    (hG : GivesN X C.T Ng x sg g cdv bg a (X.env.qual ++ "<lambda>") words) (hK : C.K = X.K) (hM : C.mg = X.mg)
    (TB : TabB X.base X.mg c P) (hcode : X.env.code = .ref c) (hmT : (P, X.env.qual ++ "<lambda>") ∈ C.T) (hu : ∀ p ∈ C.T, p.1 = P → p.2 = X.env.qual ++ "<lambda>") (hr : Room (k + 2) X.A) (L : LamS X.env.scope sc) (hdef : defaultsOf params X.env = ([], []))
    (hbind : ∀ (q : Str) (cl : List (Str × Addr)) (pm cv ctv : Value), bindArgs (PySem.W.kla_fn "<lambda>" q params body sc cl pm cv ctv) ⟨[], []⟩ = pure [])
    (hbody : ∀ (A : Around) (outer : List Env) (s : Shared) (H : Hp) (f c' : Addr) (C' : Ct), Room k (A.deeper (lamEnv X sc s.heap.objs.size f c')) → C'.K = X.K → C'.mg = X.mg → C'.T = C.T → C'.c = C.c → DE (lamN X A outer s H C'.W sc f c') C' body m)
    (hdb : (x == ("__debug__" : Str)) = false := by decide) (hd : (a == ("__debug__" : Str)) = false := by decide) (hcd : (a == ("__classdict__" : Str)) = false := by decide) :
    DE X C (.Call (.Name x p) [.Lambda params body sc lpos] [] pos) (eErr words m) := fun P0 G0 => by
  constructor
  rintro pins s σ H Q I ⟨s0, F, R, h⟩
  refine wpAny_Call_Name_kw (ld_glob I hg hm ?_ hdb)
  refine PySem.W.callWith_K (h₀ := X.base) I.ok.mod.kin hk ?_ (by rfl) (by rfl)
  show wpAny _ _ (spliced ((false, eval (.Lambda params body sc lpos) X.env) :: backTo pos (starEach [] X.env))) _ _ s
  refine Calls.spliced_cons (lam_mk I TB hcode hmT hu R.gr.tabs hdef (L.has I.ok) fun f c' pm' ctv H1 s' I1 eN T1 th hf hfn hfr hco => Calls.spliced_nil ⟨I1.kIn, wpAny_call ?_⟩)
  have R1 := rel_lam R eN T1 th
  have rc : codeAny (model X.prog X.w) X.A (.call (.ref g) ⟨[.ref f], []⟩) (CR C8.CX0 X.stack X.prog X.w H1 s' Q C8.E0) s' := by
    refine run_ofS (N := Ng) (ps := [a]) (us := [.ref f]) (vs := [.ref f]) lk hcg Sg hr I1.env0 (hb s' [.ref f] I1.kIn rfl) (.cons rfl .nil) rfl fun hr' => ?_
    have hT : TTe X.K X.mg C.T words (fun E H' Q' => ∃ C' : Ct, C'.K = X.K ∧ C'.mg = X.mg ∧ C'.T = C.T ∧ C'.c = C.c ∧ C'.W = E ∧ TD C' m σ H' Q') H1 Q := by
      refine ⟨⟨X.K, X.mg, C.T, C.c, H1, F, [], _⟩, rfl, rfl, rfl, rfl, rfl, { s0 with r := s0.r.map hideO }, F, ?_, ?_⟩
      · have z := rel_hide R1 (fun cls d H' => ∃ n A r, cls = .ref A ∧ d = none ∧ X.mg n = some (.ref A) ∧ words (some n) = some r ∧ Gives1 X.K X.mg C.T Q r H')
        rw [← hK, ← hM] at z ⊢
        exact z
      · unfold eErr at h
        rw [← hK, ← hM] at *
        cases q : m { s0 with r := s0.r.map hideO } with
        | bad => rw [q] at h; exact h.elim
        | ok d s1 =>
          rw [q] at h
          dsimp only at h
          intro v H2 F2 R2 e2 r2
          cases qw : words none with
          | none => rw [qw] at h; exact h.elim
          | some r =>
            rw [qw] at h
            exact ⟨r, rfl, C.c, F2, s1.c, gr_self (C := atC C H1 F _) R2.gr, fun v3 H3 F3 g3 r3 => h v3 H3 F3 (rel_call R1 (gr_then (C := C) R2.gr g3)) (sub_trans R2.gr.f0 g3.f0) r3⟩
        | exc n s1 =>
          rw [q] at h
          dsimp only at h
          intro H2 F2 A g2 hA
          cases qw : words (some n) with
          | none => rw [qw] at h; exact h.elim
          | some r =>
            rw [qw] at h
            exact ⟨n, A, r, rfl, rfl, hA, qw, C.c, F2, s1.c, gr_self (C := atC C H1 F _) g2, fun v3 H3 F3 g3 r3 => h v3 H3 F3 (rel_call R1 (gr_then (C := C) g2 g3)) (sub_trans g2.f0 g3.f0) r3⟩
    obtain ⟨t', ht', hq'⟩ := hG f c' s' H1 Q (fun E H' Q' => ∃ C' : Ct, C'.K = X.K ∧ C'.mg = X.mg ∧ C'.T = C.T ∧ C'.c = C.c ∧ C'.W = E ∧ TD C' m σ H' Q')
      (fun W pn xe E p1 p2 tk hW => pe_actN (tb := fun σ HZ Q => ∃ C' : Ct, C'.K = X.K ∧ C'.mg = X.mg ∧ C'.T = C.T ∧ C'.c = C.c ∧ C'.W = E ∧ TD C' m σ HZ Q) (i := 0) I1 L hf hfn hfr (hbind _ _ _ _ _) tk hW hr'
        (fun A outer s H hr2 => ⟨fun pins s2 σ2 H2 Q2 I2 ⟨C', e1, e2, e3, e4, e5, q⟩ => by subst e5; exact ((hbody A outer s H f c' C' hr2 e1 e2 e3 e4) C'.P C'.F0).run pins s2 σ2 H2 Q2 I2 q⟩) hNg hva hd hcd) hco hT
    exact ⟨t', ht'.nox, hq'⟩
  refine codeAny_mono rc fun r s2 hq => ?_
  cases r with
  | error e => exact (show False from hq).elim
  | ok fl =>
    cases fl with
    | ret u => exact I1.after hq
    | next => exact hq.elim
    | brk => exact hq.elim
    | cont => exact hq.elim
end
end PL
set_option maxHeartbeats 2000000
/-! ### try: a() / except X as e: .. / what follows -/
namespace PL
open PySem PySem.Spec PyProof.Rows L2 LamX HotX L2H
theorem takes0N {X : Cx} : L2N.Takes X (fun _ _ _ _ => False) := fun _ _ x => by
  obtain ⟨_, _, _, _, _, _, _, _, _, _, _, _, _, _, _, _, z⟩ := x
  exact z.elim
theorem rel_un {C : Ct} {σ : L2.St} {H F : Hp} {k : Int × Int} (g : Gr C H F k) : Rel C σ H ⟨List.replicate σ.length Sl.un, k⟩ F := by
  have un : ∀ i l, (List.replicate σ.length Sl.un)[i]? = some l → l = Sl.un := fun i l e => by
    rw [List.getElem?_replicate] at e
    split at e
    · cases e; rfl
    · cases e
  refine ⟨g, by simp, fun i l e => ?_, fun i j a l l' e _ o => ?_⟩
  · cases un i l e; exact trivial
  · cases un i l e; cases o
theorem rel_unE {C : Ct} {σ : L2.St} {H F : Hp} {k : Int × Int} {i : Nat} {a : Addr} (g : Gr C H F k) (h : σ[i]? = some (some (.ref a))) : Rel C σ H ⟨(List.replicate σ.length Sl.un).set i (.fn a), k⟩ F := by
  have un : ∀ j l, ((List.replicate σ.length Sl.un).set i (.fn a))[j]? = some l → isOwn l = false ∧ (l = Sl.un ∨ (j = i ∧ l = .fn a)) := fun j l e => by
    by_cases z : j = i
    · subst z
      by_cases hl : j < σ.length
      · rw [List.getElem?_set_self (by simpa using hl)] at e
        cases e
        exact ⟨rfl, .inr ⟨rfl, rfl⟩⟩
      · rw [List.getElem?_eq_none (by simp; omega)] at e
        cases e
    · rw [List.getElem?_set_ne (Ne.symm z), List.getElem?_replicate] at e
      split at e
      · cases e; exact ⟨rfl, .inl rfl⟩
      · cases e
  refine ⟨g, by simp, fun j l e => ?_, fun j j' b l l' e _ o => ?_⟩
  · rcases (un j l e).2 with rfl | ⟨rfl, rfl⟩
    · exact trivial
    · show σ.getD j none = some (.ref a)
      rw [List.getD_eq_getElem?_getD, h]
      rfl
  · rw [(un j l e).1] at o
    cases o
/-- the suite gives r, e's slot i, the exception at ae -/
def GivesS (Y : Cx) (C : Ct) (st : List Stmt) (r0 : List Sl) (r : D) : Prop := ∃ m, DSs Y C st m ∧ ∀ k, ∃ s', m ⟨r0, k⟩ = .ok (.rt r) s' ∧ s'.c = k
theorem pss_gives {Y : Cx} {C : Ct} {st : List Stmt} {r0 : List Sl} {r : D} (h : GivesS Y C st r0 r) : ∃ t, PSs Y st t ∧ ∀ D σ H F k, Rel C σ H ⟨r0, k⟩ F → (∀ v H' F', Gr C H' F' k → Rp C.K F' v r → D.rt v H') → t D σ H := by
  obtain ⟨m, hm, he⟩ := h
  refine ⟨_, hm C.F0, fun D σ H F k R q => ?_⟩
  obtain ⟨s', e1, e2⟩ := he k
  refine ⟨⟨r0, k⟩, F, R, ?_⟩
  rw [e1]
  intro v H' F' g rp
  subst e2
  exact q v H' F' g rp
theorem err_gives {X : Cx} {T : List (Addr × Str)} {Ng : List Str} {x a q ex e : Str} {sg : Scope} {g CB : Addr} {cdg : Value} {i : Nat} {b0 : Stmt} {suite rest : List Stmt} {words : Option Str → Option D} {p1 p2 p3 np hp tp : Pos}
    (hNd : Ng.Nodup) (h0 : Ng[0]? = some a) (hi : Ng[i]? = some e) (hln : sg.names.lookup e = some .local) (hgl : sg.names.lookup ex = some .globalImplicit) (hme : X.mg ex = some (.ref CB))
    (hcls : ∀ nm A r, X.mg nm = some (.ref A) → words (some nm) = some r → PySem.W.exmOne X.K (.ref A) (.ref CB) = some true)
    (hrest : ∀ (s : Shared) (H : Hp) (C : Ct) (r : D), C.K = X.K → words none = some r → GivesS (gCx X Ng x sg g cdg s H).nox C rest (List.replicate Ng.length Sl.un) r)
    (hsuite : ∀ nm A r, X.mg nm = some (.ref A) → words (some nm) = some r → ∀ (s : Shared) (H : Hp) (C : Ct) (ae : Addr) (oe : Obj) (pn : List (Addr × Obj)), C.K = X.K → C.mg = X.mg → Zc (.ref A) none oe → (∃ vs, oe.data = .fields vs) →
      HotC ((gCx X Ng x sg g cdg s H).nox.suite ae ((ae, oe) :: pn)) → GivesS ((gCx X Ng x sg g cdg s H).nox.suite ae ((ae, oe) :: pn)) C (b0 :: suite) ((List.replicate Ng.length Sl.un).set i (.fn ae)) r)
    (hde : (ex == ("__debug__" : Str)) = false := by decide) (hsw : ∀ (s : Shared) (H : Hp) (W : WX) (pn : List (Addr × Obj)) (xe : Value → Shared → Prop), swapsWith (.Call (.Name a p1) [] [] p2) none p3.line (((gCx X Ng x sg g cdg s H).nox.tr pn xe).env) = pure false := by intros; rfl) :
    GivesN X T Ng x sg g cdg (.Try [.Expr (.Call (.Name a p1) [] [] p2) p3] [.ExceptHandler (some (.Name ex np)) (some e) (b0 :: suite) hp] [] [] tp :: rest) a q words := by
  intro f c' s H Q tl act hc h
  have hlen : i < Ng.length := (List.getElem?_eq_some_iff.mp hi).1
  refine ⟨_, pss_cons (L2N.ps_try_as (X := (gCx X Ng x sg g cdg s H).nox) (i := i) (c := .ref CB) (Wout := fun _ _ _ _ => False)
    (tb := fun W D σ H => ∃ Ech : XK, (∀ cls d σ' H', Ech cls d H' → W cls d σ' H') ∧ σ[0]? = some (some (.ref f)) ∧ H c' = some (CodeO c' q) ∧ tl Ech H (fun _ H' => D.nx σ H'))
    (ts := fun ae cls d D σ H => (σ.length = Ng.length → σ[i]? = some (some (.ref ae))) ∧ ∃ nm A r, cls = .ref A ∧ d = none ∧ X.mg nm = some (.ref A) ∧ words (some nm) = some r ∧ Gives1 X.K X.mg T D.rt r H)
    rfl rfl hNd hi hln ⟨hgl, hde, .inl hme⟩ takes0N (fun W pn xe tk _ => ?_) (fun ae oe cls d pn hz hf => ?_))
    (u := fun D σ H => ∃ r, words none = some r ∧ Gives1 X.K X.mg T D.rt r H) ?_, ?_⟩
  · refine ⟨fun pins s' σ H' D I ⟨Ech, hW, h1, h2, h3⟩ => ?_⟩
    exact (pss_one (ps_expr (pos := p3) (act W pn xe Ech p1 p2 tk hW) (hsw s H W pn xe))).run pins s' σ H' D I ⟨h1, h2, h3⟩
  · constructor
    rintro pins s' σ H' D I ⟨hs, nm, A, r, rfl, rfl, hA, hw, c, F, k, g1, fin⟩
    have hl : σ.length = Ng.length := I.len
    have hot : HotC ((gCx X Ng x sg g cdg s H).nox.suite ae ((ae, oe) :: pn)) := by
      obtain ⟨vs, hv⟩ := id hf
      exact ⟨(ae, oe), ⟨rfl, vs, hv, hz.2.2 vs hv⟩, List.mem_cons_self⟩
    obtain ⟨t, ht, hq⟩ := pss_gives (hsuite nm A r hA hw s H ⟨X.K, X.mg, T, c, H', F, [], noE⟩ ae oe pn rfl rfl hz.zc hf hot)
    refine ht.run pins s' σ H' D I (hq D σ H' F k ?_ fin)
    rw [← hl]
    exact rel_unE g1 (hs hl)
  · constructor
    rintro pins s' σ H' D I ⟨r, hw, c, F, k, g1, fin⟩
    have hl : σ.length = Ng.length := I.len
    obtain ⟨t, ht, hq⟩ := pss_gives (hrest s H ⟨X.K, X.mg, T, c, H', F, [], noE⟩ r rfl hw)
    refine ht.run pins s' σ H' D I (hq D σ H' F k ?_ fin)
    rw [← hl]
    exact rel_un g1
  · refine ⟨fun cls d H' => ∃ n A r, cls = .ref A ∧ d = none ∧ X.mg n = some (.ref A) ∧ words (some n) = some r ∧ Gives1 X.K X.mg T Q r H', ?_, ?_, hc, h⟩
    · rintro cls d σ' H' ⟨nm, A, r, rfl, rfl, hA, hw, g1⟩
      refine ⟨true, hcls nm A r hA hw, fun _ ae _ => ⟨fun hl => ?_, nm, A, r, rfl, rfl, hA, hw, g1⟩, fun z => nomatch z⟩
      rw [List.length_set] at hl
      rw [List.getElem?_set_self (by rw [hl]; exact hlen)]
    · have hp := (List.getElem?_eq_some_iff.mp h0).1
      unfold L2.start
      rfl
end PL
set_option maxHeartbeats 2000000
/-! ### enumerate over a tuple or a list -/
namespace PL
open PySem PySem.Spec PyProof.Rows L2 LamX
section
open Sem (wp)
open AutoSeq1 (wpAny_loadPart')
theorem enumT_new {t : Addr} {items : Array Value} : Meets (Builtin.«enumerate.__new__» ⟨[.type "enumerate", .ref t], []⟩) (fun _ R s => s.heap.IsTuple t items ∧
    R (.ok (.ret (.ref (s.heap.push { cls := .type "tuple_iterator", data := .fields #[.ref t, .int 0 0] }).objs.size))) { s with heap := (s.heap.push { cls := .type "tuple_iterator", data := .fields #[.ref t, .int 0 0] }).push { cls := .type "enumerate", data := .fields #[.none, .bool false, .ref s.heap.objs.size, rawInt 0, .none, .none] } }) :=
  .of_wp fun prog w A R s h => by
    obtain ⟨hp, g, d, tk, os⟩ := s
    obtain ⟨h1, h⟩ := h
    have hsub := sub_enumerate
    have q1 : ∀ {A' : Around} {E : Value → Shared → Prop} {Q : Value → Shared → Prop}, Q (.ref hp.objs.size) ⟨hp.push { cls := .type "tuple_iterator", data := .fields #[.ref t, .int 0 0] }, g, d, tk, os⟩ → wpAny (model prog w) A' (pyIter (.ref t)) Q E ⟨hp, g, d, tk, os⟩ := fun q => wpAny_pyIter_tuple (s := ⟨hp, g, d, tk, os⟩) h1 q
    wp_walk using q1
    refine wpAny_stack_any fun st => wpAny_pure ?_
    split
    · rename_i c _ _ _ _ _
      cases (c == Value.type "enumerate")
      · wp_walk using q1
        exact ⟨_, rfl, h⟩
      · wp_walk using q1
        exact ⟨_, rfl, h⟩
    · wp_walk using q1
      exact ⟨_, rfl, h⟩
end
theorem enumT_call {prog : Program} {w : World} {A : Around} {E : Value → Shared → Prop} {s : Shared} {t : Addr} {items : Array Value} {Q : Value → Shared → Prop} (ht : s.heap.IsTuple t items)
    (k : ∀ h', IsEnum h' (s.heap.objs.size + 1) s.heap.objs.size 0 .none → h'.IsTupleIter s.heap.objs.size t 0 → (∀ b o, s.heap.get? b = some o → h'.get? b = some o) → Q (.ref (s.heap.objs.size + 1)) { s with heap := h' }) :
    wpAny (model prog w) A (call (.type "enumerate") [.ref t]) Q E s := by
  refine callType_new F.called_enumerate (by decide) (F.typeCall_enumerate_1 _) (F.newCall_enumerate_1 _) (fun obj => F.args_object_init_2 obj _) F.entry_enumerate_new enumT_new ⟨ht, ?_⟩
  obtain ⟨h1, e1⟩ : ∃ h1, s.heap.push { cls := .type "tuple_iterator", data := .fields #[.ref t, .int 0 0] } = h1 := ⟨_, rfl⟩
  have hz : h1.objs.size = s.heap.objs.size + 1 := by rw [← e1]; exact Heap.size_push ..
  show _ ∧ _
  rw [e1, hz]
  have he : IsEnum (h1.push { cls := .type "enumerate", data := .fields #[.none, .bool false, .ref s.heap.objs.size, rawInt 0, .none, .none] }) (s.heap.objs.size + 1) s.heap.objs.size 0 .none := by
    rw [← hz]
    exact Heap.get?_push_size h1 rfl
  refine ⟨⟨_, he, rfl⟩, k _ he ⟨{ cls := .type "tuple_iterator", data := .fields #[.ref t, .int 0 0] }, Heap.get?_push_of_some _ ?_, rfl, rfl⟩ fun b o x => Heap.get?_push_of_some _ ?_⟩
  · rw [← e1]; exact Heap.get?_push_size _ rfl
  · rw [← e1]; exact Heap.get?_push_of_some _ x
/-- the pairs (place, item) of the tuple at a -/
def IteT (K : PySem.W.Frag) (a : Addr) : It :=
  ⟨fun i H => ∃ xs x, SqT K H a xs ∧ xs[i]? = some x, fun i H v H' => ∃ T x, v = .ref T ∧ H T = none ∧ H' = upd H T (.tup [.int (i : Nat), x]) ∧ ∀ xs, SqT K H a xs → xs[i]? = some x, fun i H => ∃ xs, SqT K H a xs ∧ xs.length = i⟩
theorem turn_enumT {P : Program} {w : World} {K : PySem.W.Frag} {elts : List Expr} {kk : Nat} {tpos : Pos} (a e it : Addr) (items : Array Value) (hae : a ≠ e) (hai : a ≠ it) (hei : e ≠ it) :
    Turn P w K (.Tuple elts kk tpos) (IteT K a) [e, it] e (fun i h => (∃ old, IsEnum h e it ((i : Nat) : Int) old) ∧ h.IsTupleIter it a i) where
  mem := List.mem_cons_self
  obj := fun i h st b hb => by
    obtain ⟨⟨old, he⟩, ⟨o, ho, _, hd⟩⟩ := st
    rcases List.mem_cons.mp hb with rfl | z
    · exact ⟨_, he, fun v q => nomatch q⟩
    · cases List.mem_singleton.mp z
      exact ⟨o, ho, fun v q => nomatch hd.symm.trans q⟩
  keep := fun i h h' st k => by
    obtain ⟨⟨old, he⟩, hi⟩ := st
    exact ⟨⟨old, k e List.mem_cons_self _ he⟩, hi.at fun o q => k it (List.mem_cons_of_mem _ (List.mem_singleton.mpr rfl)) o q⟩
  item := by
    rintro X rfl rfl rfl hc i pins s σ H E I hf ⟨⟨old, he⟩, hit⟩ ⟨xs, x, hq, hx⟩
    obtain ⟨its, rv, p, hz⟩ := I.tuple hq
    obtain ⟨u, hu, ru⟩ := rv.get hx
    have hil : i < its.toArray.size := by
      rw [List.size_toArray]
      exact (List.getElem?_eq_some_iff.mp hu).1
    have D := Draws.tuple (prog := X.prog) (w := X.w) (A := X.A.in1) (I.ok.hd hc) it a hai its.toArray
    have hel : e < s.heap.objs.size := Heap.lt_size he
    have hil2 : it < s.heap.objs.size := hit.elim fun _ q => Heap.lt_size q.1
    have hef : e ∉ [it, a] := fun z => by
      rcases List.mem_cons.mp z with y | y
      · exact hei y
      · exact hae (List.mem_singleton.mp y).symm
    refine wpAny_pyNext_enum_itemD D he ⟨hit, (show s.heap.IsTuple a its.toArray from p)⟩ hil hei hef fun x' h' tk hP ho st' hT hsz hk => ?_
    have ex : x' = u := by
      rw [List.getElem?_toArray, hu] at hP
      exact (Option.some.inj hP).symm
    subst ex
    refine ⟨_, rfl, wpAny_letOwnedTupleGo_enum (s := { s with heap := h', toks := tk + 1 }) ho fun h2 he2 sb => ?_⟩
    have hT2 : h2.get? s.heap.objs.size = some { cls := .type "tuple", data := .seq #[.int i tk, x'] } := (sb.2 _ (Nat.ne_of_gt hel)).trans hT
    have new : ObjOk X.prog X.w (upd H s.heap.objs.size (.tup [.int (i : Nat), x])) h2 s.heap.objs.size (.tup [.int (i : Nat), x]) :=
      ⟨by show 2 ≤ sizeLine; decide, [.int i tk, x'], .cons ⟨_, rfl⟩ (.cons ru .nil), ⟨_, hT2, rfl, _, rfl⟩⟩
    have ne : ∀ {b : Addr}, b ∉ [e, it] → b ≠ e ∧ b ≠ it := fun hb => ⟨fun z => hb (by simp [z]), fun z => hb (by simp [z])⟩
    have I1 : Inv X pins σ (upd H s.heap.objs.size (.tup [.int (i : Nat), x])) { s with heap := h2, toks := tk + 1 } :=
      I.turnedNew (ch := [e, it]) (fun b ob hb q => (sb.2 b (ne hb).1).trans (hk b ob (ne hb).1 (ne hb).2 q)) hf (Nat.le_refl _) new
    refine ⟨.ref s.heap.objs.size, _, I1, rfl, ⟨_, x, rfl, I.hok.fresh (Nat.le_refl _), rfl, fun ys hy => ?_⟩, ⟨⟨x', ?_⟩, st'.1.at fun o q => (sb.2 it (Ne.symm hei)).trans q⟩, fun b hb => ?_⟩
    · cases I.tuple_inj hy hq
      exact hx
    · have e1 : ((i + 1 : Nat) : Int) = (i : Int) + 1 := by omega
      rw [e1]; exact he2
    · have hb' : b < s.heap.objs.size := by
        rcases List.mem_cons.mp hb with rfl | z
        · exact hel
        · cases List.mem_singleton.mp z; exact hil2
      rw [upd_ne (Nat.ne_of_lt hb')]
      exact (hf b hb).1
  done := by
    rintro X rfl rfl rfl hc i pins s σ H E I hf ⟨⟨old, he⟩, hit⟩ ⟨xs, hq, rfl⟩
    obtain ⟨its, rv, p, hz⟩ := I.tuple hq
    have hl := rv.length
    have D := Draws.tuple (prog := X.prog) (w := X.w) (A := X.A.in1) (I.ok.hd hc) it a hai its.toArray
    obtain ⟨f0, f1, f2, f3, f4, f5⟩ := hf it (List.mem_cons_of_mem _ (List.mem_singleton.mpr rfl))
    refine wpAny_pyNext_enum_endD D he ⟨?_, (show s.heap.IsTuple a its.toArray from p)⟩ fun h' eb => ⟨rfl, I.turned (t' := s.toks) (fun b o hb q => eb b o hb q) f0 f1 f3 f4 f5⟩
    have ez : its.toArray.size = xs.length := by rw [List.size_toArray]; omega
    rw [ez]
    exact hit
  self := fun A i s Q E st h => st.1.elim fun _ he => wpAny_pyIter_enum he h
def iEnumT (K : PySem.W.Frag) (ta : TA) : TI := fun σ H R => ta σ H fun vs H1 => ∃ a xs, vs = [.ref a] ∧ SqT K H1 a xs ∧ R (IteT K a) H1
theorem pi_enumT {X : Cx} {e : Expr} {ta : TA} {p pos tpos : Pos} {elts : List Expr} {kk : Nat} (hg : Gl X "enumerate") (hm : X.mg "enumerate" = none) (ha : PA X [e] ta) (hs : starEach [e] X.env = [(false, eval e X.env)] := by rfl) :
    PI X (.Tuple elts kk tpos) (.Call (.Name "enumerate" p) [e] [] pos) (iEnumT X.K ta) := by
  refine ⟨fun pins s σ H R I h => Call_ (ld_blt I hg hm boot_enumerate (PyProof.Rows.callWith_type1 (thn (ha.run pos pins s σ H _ I h) ?_) hs rfl))⟩
  rintro us s1 ⟨vs, H1, I1, r1, a, xs, rfl, hq, q⟩
  cases r1 with
  | cons r rr =>
    cases rr
    cases r
    obtain ⟨its, rv, p', hz⟩ := I1.tuple hq
    have hal : a < s1.heap.objs.size := Heap.lt_size (show s1.heap.IsTuple a its.toArray from p').choose_spec.1
    refine enumT_call (show s1.heap.IsTuple a its.toArray from p') fun h' he hit hk => wpAny_pyIter_enum he ?_
    refine ⟨s1.heap.objs.size + 1, [s1.heap.objs.size + 1, s1.heap.objs.size], _, _, H1, rfl, I1.kept (t' := s1.toks) hk, turn_enumT a (s1.heap.objs.size + 1) s1.heap.objs.size its.toArray (Nat.ne_of_lt (Nat.lt_succ_of_lt hal)) (Nat.ne_of_lt hal) (Nat.succ_ne_self _), ⟨⟨.none, he⟩, hit⟩, fun b hb => ?_, q⟩
    have hle : s1.heap.objs.size ≤ b := by
      rcases List.mem_cons.mp hb with rfl | z
      · exact Nat.le_succ _
      · cases List.mem_singleton.mp z; exact Nat.le_refl _
    exact I1.fpOk hle (I1.hok.fresh hle)
def enumL (ds : List D) : List D := ds.zipIdx.map fun p => .tuple [.int p.2, p.1]
def enumD : List D → M (List D)
  | [.list xs] => ret (enumL xs)
  | [.tuple xs] => ret (enumL xs)
  | _ => bad
theorem enum_len (ds : List D) : (enumL ds).length = ds.length := by simp [enumL]
theorem enum_get {ds : List D} {i : Nat} {d : D} (h : ds[i]? = some d) : (enumL ds)[i]? = some (.tuple [.int i, d]) := by
  simp [enumL, List.getElem?_zipIdx, h]
section
variable {X : Cx} {C : Ct}
theorem yl_enum {F' H2 F2 H3 : Hp} {i : Nat} {x : V} {d : D} {T : Addr} (e2 : Sub F2 H2) (hT : H2 T = none) (eH : H3 = upd H2 T (.tup [.int (i : Nat), x])) (r : Rp C.K F2 x d) : Yl C.K H2 (.ref T) H3 F2 (.tuple [.int i, d]) := by
  refine .inr ⟨T, .tup [.int (i : Nat), x], (fun ps z => nomatch z), hT, eH, .tup upd_same (.cons (.int _) (.cons (dp_sub (sub_upd (sub_none e2 hT)) r) .nil))⟩
theorem di_enum {e : Expr} {elts : List Expr} {kk : Nat} {m : M (List D)} {p pos tpos : Pos} (hK : C.K = X.K) (hg : Gl X "enumerate") (hm : X.mg "enumerate" = none) (ha : DA X C [e] m) (hs : starEach [e] X.env = [(false, eval e X.env)] := by rfl) :
    DI X C (.Tuple elts kk tpos) (.Call (.Name "enumerate" p) [e] [] pos) (bnd m enumD) := fun P G => by
  refine ⟨fun pins s σ H R I h => ?_⟩
  obtain ⟨s0, F0, R0, h0⟩ := id h
  replace hK : C.K = X.K := hK
  have pl := pi_enum (p := p) (pos := pos) (elts := elts) (kk := kk) (tpos := tpos) hg hm (ha P G) hs
  have pt := pi_enumT (p := p) (pos := pos) (elts := elts) (kk := kk) (tpos := tpos) hg hm (ha P G) hs
  unfold bnd at h0
  cases q : m s0 with
  | exc n s' =>
    rw [q] at h0
    refine pl.run pins s σ H R I ⟨s0, F0, R0, ?_⟩
    rw [q]
    exact h0
  | bad => rw [q] at h0; exact h0.elim
  | ok ds s' =>
    rw [q] at h0
    have h1 : PostI { C with P := P, F0 := G } σ F0 (enumD ds s') R := h0
    unfold enumD at h1
    split at h1
    · rename_i xs
      refine pl.run pins s σ H R I ⟨s0, F0, R0, ?_⟩
      rw [q]
      intro vs H' F' R' e' r
      cases r with
      | cons r rr =>
        cases rr
        cases r with
        | @lst a vx _ sx ax =>
          have wk : Walk (Ite X.K a) (enumL xs).length (fun H => SqL X.K H a vx) (YPair (fun i => some (V.int (i : Nat))) (fun i => vx[i]?)) := by
            rw [enum_len, ← dps_len ax]
            exact walk_enum
          refine ⟨a, vx, rfl, SqL.of (R'.gr.fsub _ _ sx), h1 _ _ _ R' e' ⟨_, _, wk, fun H3 F3 e1 e2 => SqL.of (K := X.K) (e2 _ _ (e1 _ _ sx)), fun i H3 x H4 F3 hi e1 e2 y => ?_⟩⟩
          obtain ⟨T, x0, x1, rfl, e4, e5, e6, e7⟩ := y
          cases e6
          obtain ⟨d1, g1, g2⟩ := dps_get' (dps_sub e1 ax) e7
          exact ⟨_, enum_get g1, yl_enum (F' := F') e2 e4 e5 g2⟩
    · rename_i xs
      refine pt.run pins s σ H R I ⟨s0, F0, R0, ?_⟩
      rw [q]
      intro vs H' F' R' e' r
      cases r with
      | cons r rr =>
        cases rr
        cases r with
        | @tup a vx _ sx ax =>
          have wk : Walk (IteT X.K a) (enumL xs).length (fun H => SqT X.K H a vx) (fun i H v H' => ∃ T x, v = .ref T ∧ H T = none ∧ H' = upd H T (.tup [.int (i : Nat), x]) ∧ vx[i]? = some x) := by
            rw [enum_len, ← dps_len ax]
            refine ⟨fun i _ hi q => ⟨vx, vx[i], q, by simp [hi]⟩, fun _ q => ⟨vx, q, rfl⟩, fun i H v H' _ q y => ?_⟩
            obtain ⟨T, x, a1, a2, a3, a4⟩ := y
            exact ⟨T, x, a1, a2, a3, a4 vx q⟩
          refine ⟨a, vx, rfl, SqT.of (R'.gr.fsub _ _ sx), h1 _ _ _ R' e' ⟨_, _, wk, fun H3 F3 e1 e2 => SqT.of (K := X.K) (e2 _ _ (e1 _ _ sx)), fun i H3 x H4 F3 hi e1 e2 y => ?_⟩⟩
          obtain ⟨T, x1, rfl, e4, e5, e6⟩ := y
          obtain ⟨d1, g1, g2⟩ := dps_get' (dps_sub e1 ax) e6
          exact ⟨_, enum_get g1, yl_enum (F' := F') e2 e4 e5 g2⟩
    · exact h1.elim
end
end PL
set_option maxHeartbeats 2000000
/-! ### a comprehension stored in a local; defs by their names -/
namespace PL
open PySem PySem.Spec PyProof.Rows L2 LamX
section
variable {X : Cx} {C : Ct} {E : Ends} {σ : L2.St} {H : Hp}
theorem own_td {i : Nat} {m : M (List D)} (h : TDS C (sOwn i m) E σ H) : TDF C m σ H fun v H1 => E.nx (σ.set i (some v)) H1 := by
  obtain ⟨s, F, R, h⟩ := tf_bndS h
  refine ⟨s, F, R, ?_⟩
  cases q : m s with
  | ok d s' =>
    rw [q] at h
    intro a vs H' F' R' e f ha r
    obtain ⟨a', vs', ds, s2, F2, e2, R2, f2, ha2, r2, p⟩ := h a vs H' F' R' e f ha r
    cases e2
    exact p _ _ F2 (rel_setOwn (ho := .lst vs') (ds := .lst ds) R2 f2 ha2 r2)
  | exc n s' => rw [q] at h; exact h
  | bad => rw [q] at h; exact h
theorem frz_td {i : Nat} {m : M (List D)} (h : TDS C (sSet i (frz m)) E σ H) : TDF C m σ H fun v H1 => E.nx (σ.set i (some v)) H1 := by
  obtain ⟨s, F, R, h⟩ := h
  refine ⟨s, F, R, ?_⟩
  unfold sSet frz bnd at h
  cases q : m s with
  | ok d s' =>
    rw [q] at h
    intro a vs H' F' R' e f ha r
    exact h _ H' (upd F' a (.lst vs)) (rel_set (rel_frzF R' f ha (fun ps z => nomatch z)) (.lst upd_same (dps_sub (sub_upd f.f) r)))
  | exc n s' => rw [q] at h; exact h
  | bad => rw [q] at h; exact h
theorem ds_ownLc {i : Nat} {y : Str} {py : Pos} {elt tg iter : Expr} {ifs : List Expr} {scope : Scope} {own : List (Str × Nat)} {pos spos : Pos} {m : M (List D)} {ts : List Nat} {asg : D → M Unit} {tst : M Bool} {me : M D} (hc : X.calm = true) (hN : X.N.Nodup) (hy : X.N[i]? = some y) (hyl : X.env.scope.names.lookup y = some .local)
    (hsw : swapsWith (.ListComp elt [⟨tg, iter, ifs, 0⟩] scope pos) (some (.Name y py)) spos.line X.env = pure true) (hi : DI X C tg iter m) (ok : BlkOk X.N X.env.scope scope own) (hv : ∀ i ∈ ts, i ∈ own.map (·.2))
    (hg : ∀ (s : Shared) (H : Hp) (A : Addr) (cl : List (Str × Addr)) (fp : List Addr), DG (X.blk s H scope (compEnvC scope cl A X.env) fp) C.nw tg ts asg) (ht : ∀ (s : Shared) (H : Hp) (A : Addr) (cl : List (Str × Addr)) (fp : List Addr), TDTs (X.blk s H scope (compEnvC scope cl A X.env) fp) C.nw ifs tst)
    (he : ∀ (s : Shared) (H : Hp) (A : Addr) (cl : List (Str × Addr)) (fp : List Addr), DE (X.blk s H scope (compEnvC scope cl A X.env) fp) C.nw elt me) (hs : ∀ x, foldedSetIterable iter X.env x = pure x := by intro _; rfl) :
    DS X C (.Assign [.Name y py] (.ListComp elt [⟨tg, iter, ifs, 0⟩] scope pos) spos) (sOwn i (eLc m asg tst me (own.map (·.2)))) := fun G =>
  PS.imp (ps_setLc hc hN hy hyl hsw (hi C.P G) ok (fun s H A cl fp => pg_any (hg s H A cl fp)) (fun s H A cl fp => pts_any (ht s H A cl fp)) (fun s H A cl fp => pe_any (he s H A cl fp)) hs) fun E σ H h => tlc_ok (P := C.P) (G0 := G) hv (own_td h)
theorem ds_setLc {i : Nat} {y : Str} {py : Pos} {elt tg iter : Expr} {ifs : List Expr} {scope : Scope} {own : List (Str × Nat)} {pos spos : Pos} {m : M (List D)} {ts : List Nat} {asg : D → M Unit} {tst : M Bool} {me : M D} (hc : X.calm = true) (hN : X.N.Nodup) (hy : X.N[i]? = some y) (hyl : X.env.scope.names.lookup y = some .local)
    (hsw : swapsWith (.ListComp elt [⟨tg, iter, ifs, 0⟩] scope pos) (some (.Name y py)) spos.line X.env = pure true) (hi : DI X C tg iter m) (ok : BlkOk X.N X.env.scope scope own) (hv : ∀ i ∈ ts, i ∈ own.map (·.2))
    (hg : ∀ (s : Shared) (H : Hp) (A : Addr) (cl : List (Str × Addr)) (fp : List Addr), DG (X.blk s H scope (compEnvC scope cl A X.env) fp) C.nw tg ts asg) (ht : ∀ (s : Shared) (H : Hp) (A : Addr) (cl : List (Str × Addr)) (fp : List Addr), TDTs (X.blk s H scope (compEnvC scope cl A X.env) fp) C.nw ifs tst)
    (he : ∀ (s : Shared) (H : Hp) (A : Addr) (cl : List (Str × Addr)) (fp : List Addr), DE (X.blk s H scope (compEnvC scope cl A X.env) fp) C.nw elt me) (hs : ∀ x, foldedSetIterable iter X.env x = pure x := by intro _; rfl) :
    DS X C (.Assign [.Name y py] (.ListComp elt [⟨tg, iter, ifs, 0⟩] scope pos) spos) (sSet i (frz (eLc m asg tst me (own.map (·.2))))) := fun G =>
  PS.imp (ps_setLc hc hN hy hyl hsw (hi C.P G) ok (fun s H A cl fp => pg_any (hg s H A cl fp)) (fun s H A cl fp => pts_any (ht s H A cl fp)) (fun s H A cl fp => pe_any (he s H A cl fp)) hs) fun E σ H h => tlc_ok (P := C.P) (G0 := G) hv (frz_td h)
end
/-! ### a def as its name tells it -/
/-- the def x keeps its promise sp at the level k -/
structure OkD (P : Program) (w : World) (K : PySem.W.Frag) (mg : Str → Option Value) (base : Heap) (k : Nat) (x : Str) (ps : List Str) (sp : Sp) : Prop where
  ok : ∃ f fd, FnOk P w K mg base (L2N.CX P w) k f fd ps sp ∧ mg x = some (.ref f) ∧ PySem.W.keepIn K (.ref f) = true ∧ Binds K fd ps []
/-- where nothing is let out, or what is let out is taken -/
def Tk (X : Cx) (C : Ct) : Prop := L2N.Takes X (fun cls d _ H => C.W cls d H)
theorem tk_nw {X : Cx} {C : Ct} : Tk X C.nw := takes0N
section
variable {X : Cx} {C : Ct}
theorem de_callO {cf : Bool} {n k k' : Nat} {den : Dn} {ps : List Str} {x : Str} {p pos : Pos} {e : Expr} {es : List Expr} {ci : Option Nat} {m : M (List D)}
    (F : OkD X.prog X.w X.K X.mg X.base k x ps (spD X.K X.mg C.T cf n den)) (hr : Room k' X.A) (hk : k ≤ k') (hci : ci.isSome = cf) (hK : C.K = X.K) (hM : C.mg = X.mg) (hg : Gl X x) (tk : Tk X C) (hn : ArgN m n)
    (ha : DAk X C (e :: es) ci m) (hdb : (x == ("__debug__" : Str)) = false := by decide) (he : starEach (e :: es) X.env = (false, eval e X.env) :: starEach es X.env := by rfl) (hpl : (backTo pos (starEach es X.env)).any (·.1) = false := by rfl) :
    DE X C (.Call (.Name x p) (e :: es) [] pos) (eCall ci den m) := by
  obtain ⟨f, fd, ok, hm, hk1, hb⟩ := F.ok
  exact de_call ok hci hK hM (hr.mono hk) hg hm hk1 hb tk hn ha hdb he hpl
theorem u65 {k : Nat} (hr : Room k X.A) : X.A.units + 65 < cLine := by have := hr.un; omega
theorem u64 {k : Nat} (hr : Room k X.A) : X.A.units + 64 < cLine := by have := hr.un; omega
theorem u1 {k : Nat} (hr : Room k X.A) : X.A.units + 1 < cLine := by have := hr.un; omega
/-- what is said of an own class of exceptions -/
structure ExcO (K : PySem.W.Frag) (mg : Str → Option Value) (x : Str) : Prop where
  ok : ∃ A, mg x = some (.ref A) ∧ PySem.W.excIn K A He.veBase "ValueError.__new__" = true ∧ PySem.W.keepIn K (.ref A) = true ∧ PySem.W.subIn K (.ref A) (.type "BaseException") = some true ∧ PySem.W.typeIn K (.ref A) = some (.type "type")
theorem ds_raiseO {x m : Str} {j : Nat} {p p2 p3 pos : Pos} (hx : ExcO X.K X.mg x) (hc : X.calm = true) (tk : Tk X C) (hM : C.mg = X.mg) (hg : Gl X x) (hdb : (x == ("__debug__" : Str)) = false := by decide) : DS X C (.Raise (some (.Call (.Name x p) [.Constant (.str m) j p2] [] p3)) none pos) (exc x) := by
  obtain ⟨A, h1, h2, h3, h4, h5⟩ := hx.ok
  exact ds_raise hc tk (by rw [hM]; exact h1) (L2N.pmk_own F.excBase_ValueError h2 h1 h3 (raises_own h4 h5) hg hdb)
theorem de_gintO {x : Str} {i : Int} {pos : Pos} (h : ∃ t, X.mg x = some (.int i t)) (hg : Gl X x) (hd : (x == ("__debug__" : Str)) = false := by decide) : DE X C (.Name x pos) (eC (.int i)) := by
  obtain ⟨t, h⟩ := h
  exact de_gint hg h hd
end
end PL
set_option maxHeartbeats 2000000
/-! ### defs by the head's facts -/
namespace PL
open PySem PySem.Spec PyProof.Rows L2 LamX
def visB (sc : Scope) (x : Str) : Bool := match sc.names.lookup x with
  | some .local => true
  | some .cell => true
  | some .free => true
  | _ => false
theorem vis_of {sc : Scope} {x : Str} (h : visB sc x = true) : Vis sc x := by
  unfold visB at h
  split at h
  · exact .inl (by assumption)
  · exact .inr (.inl (by assumption))
  · exact .inr (.inr (by assumption))
  · cases h
def locB (sc : Scope) (x : Str) : Bool := match sc.names.lookup x with
  | some .local => true
  | some .cell => true
  | _ => false
theorem loc_of {sc : Scope} {x : Str} (h : locB sc x = true) : Loc sc x := by
  unfold locB at h
  split at h
  · exact .inl (by assumption)
  · exact .inr (by assumption)
  · cases h
/-- a def of the module's top -/
abbrev FnP (K : PySem.W.Frag) (x : Str) (st : Stmt) (f : Addr) (fd : FuncData) : Prop := FunD K x x (defArgs st) (defBody st) (defScope st) [] [] f fd
/-- how its arguments go to its parameters -/
def BindP (x : Str) (st : Stmt) (ps : List Str) : Prop := ∀ (kV doc pm : Value) (an : Option Addr) (cdv ct : Value) (us : List Value), us.length = ps.length → bindArgs (PySem.W.fnOf x x (defArgs st) (defBody st) (defScope st) .none kV doc pm an cdv ct) ⟨us, []⟩ = pure (ps.zip us)
/-- the def x of the top, as K and mg tell -/
structure DefF (K : PySem.W.Frag) (mg : Str → Option Value) (x : Str) (st : Stmt) : Prop where
  fn : ∃ fd, FnP K x st (He.ga K x) fd
  g : mg x = some (.ref (He.ga K x))
section
variable {P : Program} {w : World} {K : PySem.W.Frag} {mg : Str → Option Value} {base : Heap} {T : List (Addr × Str)}
theorem okF_of {x : Str} {st : Stmt} {N ps : List Str} {k : Nat} {sp : Sp} {fd : FuncData} (F1 : FnP K x st (He.ga K x) fd) (S : FnScope N ps (defScope st)) (len : ∀ vs H Q E, sp vs H Q E → vs.length = ps.length)
    (body : ∀ (cdv : Value) (A : Around) (outer : List Env) (s : Shared) (H : Hp) (vs : List V) (Q : VK) (E : XK), cdv = .ref (He.codeOf K (x, none)) → Room k (A.deeper (envOfC x (defScope st) s.heap.objs.size (He.ga K x) cdv)) → sp vs H Q E →
      ∃ t, PSs (dX P w K mg base N x st (He.ga K x) cdv A outer s H E) (defBody st) t ∧ t { nx := fun _ H' => Q .non H', rt := Q } (L2.start N vs) H) : FnOk P w K mg base (L2N.CX P w) (k + 1) (He.ga K x) fd ps sp := by
  obtain ⟨oc, od, dV, kV, doc, pm, an, cdv, ct, osl, rfl, lk, hcd, _, _⟩ := F1.ex
  obtain ⟨c, rfl⟩ := He.codeIn_ref hcd
  have ec : He.codeOf K (x, none) = c := He.codeOf_eq (p := (x, none)) lk rfl
  exact fn_of lk hcd S len fun A outer s H vs Q E => body (.ref c) A outer s H vs Q E (by rw [ec])
theorem okD_of {x : Str} {st : Stmt} {N ps : List Str} {k : Nat} {sp : Sp} (F : DefF K mg x st) (S : FnScope N ps (defScope st)) (b : BindP x st ps) (len : ∀ vs H Q E, sp vs H Q E → vs.length = ps.length)
    (body : ∀ (cdv : Value) (A : Around) (outer : List Env) (s : Shared) (H : Hp) (vs : List V) (Q : VK) (E : XK), cdv = .ref (He.codeOf K (x, none)) → Room k (A.deeper (envOfC x (defScope st) s.heap.objs.size (He.ga K x) cdv)) → sp vs H Q E →
      ∃ t, PSs (dX P w K mg base N x st (He.ga K x) cdv A outer s H E) (defBody st) t ∧ t { nx := fun _ H' => Q .non H', rt := Q } (L2.start N vs) H) : OkD P w K mg base (k + 1) x ps sp := by
  obtain ⟨fd, F1⟩ := F.fn
  exact ⟨He.ga K x, fd, okF_of F1 S len body, F.g, F1.kp, F1.bindsN b⟩
theorem okD_den {x : Str} {st : Stmt} {N ps : List Str} {k : Nat} {cf : Bool} {n : Nat} {m : M Fl} (F : DefF K mg x st) (S : FnScope N ps (defScope st)) (b : BindP x st ps) (hps : ps.length = (if cf then 1 else 0) + n)
    (body : ∀ (cdv : Value) (A : Around) (outer : List Env) (s : Shared) (H : Hp) (E : XK) (c : Addr) (F0 : Hp), cdv = .ref (He.codeOf K (x, none)) → Room k (A.deeper (envOfC x (defScope st) s.heap.objs.size (He.ga K x) cdv)) →
      DSs (dX P w K mg base N x st (He.ga K x) cdv A outer s H E) ⟨K, mg, T, c, H, F0, [], E⟩ (defBody st) m) : OkD P w K mg base (k + 1) x ps (spD K mg T cf n (denOf N.length cf m)) := by
  refine okD_of F S b (fun vs H Q E h => by rw [spD_len vs H Q E h, hps]) fun cdv A outer s H vs Q E hc hr h => ?_
  obtain ⟨c, F0, ds, ws, k0, rfl, hn, hrp, ht, hcu, hf, hs, hb, hp⟩ := h
  have hpl : ps.length ≤ N.length := by have := congrArg List.length S.pre; rw [List.length_take] at this; omega
  refine ⟨_, body cdv A outer s H E c F0 hc hr F0, ⟨initS N.length cf ds, k0⟩, F0, rel_init hrp (by rw [hn, ← hps]; exact hpl) ht hcu hf hs hb, ?_⟩
  unfold denOf at hp
  cases q : m ⟨initS N.length cf ds, k0⟩ with
  | bad => rw [q] at hp; exact hp.elim
  | exc nm s' =>
    rw [q] at hp
    exact fun H' F' A g hA => hp H' F' A (gr_anyW g rfl rfl rfl rfl rfl rfl) hA
  | ok fl s' =>
    rw [q] at hp
    cases fl with
    | rt d => exact fun v H' F' g r => hp v H' F' (gr_anyW g rfl rfl rfl rfl rfl rfl) r
    | nx => exact fun σ' H' F' R => hp .non H' F' (gr_anyW R.gr rfl rfl rfl rfl rfl rfl) .non
    | bk => exact hp.elim
    | ct => exact hp.elim
/-- nothing is promised -/
theorem okD_bad {x : Str} {st : Stmt} {ps : List Str} {k : Nat} {cf : Bool} {n : Nat} (F : DefF K mg x st) (b : BindP x st ps) (hps : ps.length = (if cf then 1 else 0) + n) : OkD P w K mg base k x ps (spD K mg T cf n fun _ _ => .bad) := by
  obtain ⟨fd, F1⟩ := F.fn
  refine ⟨He.ga K x, fd, ⟨fun vs H Q E h => by rw [spD_len vs H Q E h, hps], fun A outer s H args us vs Q E _ _ _ _ h => ?_⟩, F.g, F1.kp, F1.bindsN b⟩
  obtain ⟨_, _, _, _, _, _, _, _, _, _, _, _, _, z⟩ := h
  exact z.elim
theorem OkD.mono {j k : Nat} {x : Str} {ps : List Str} {sp : Sp} (o : OkD P w K mg base j x ps sp) (h : j ≤ k) : OkD P w K mg base k x ps sp := by
  obtain ⟨f, fd, ok, r⟩ := o.ok
  exact ⟨f, fd, ok.mono h, r⟩
end
/-! ### a call without arguments -/
section
variable {X : Cx} {C : Ct}
theorem pe_call0S {k : Nat} {f : Addr} {fd : FuncData} {ps : List Str} {sp : Sp} {CX : CXT} {E : L2.St → XK} {x : Str} {p pos : Pos} (F : FnOk X.prog X.w X.K X.mg X.base CX k f fd ps sp) (hr : Room k X.A) (hg : Gl X x) (hm : X.mg x = some (.ref f)) (hk : PySem.W.keepIn X.K (.ref f) = true) (hb : Binds X.K fd ps [])
    (hx : ∀ σ, PassesAt CX X σ (E σ)) (hdb : (x == ("__debug__" : Str)) = false := by decide) : PE X (.Call (.Name x p) [] [] pos) (tCallS sp E tNil) := by
  refine ⟨fun pins s σ H Q I h => ?_⟩
  refine wpAny_Call_Name_kw (ld_glob I hg hm ?_ hdb)
  exact PySem.W.callWith_K0 I.kIn hk (run_fnS (us := []) F hr hb (hx σ) I .nil h)
def eCall0 (den : Dn) : M D := callD den []
theorem de_call0 {k k' : Nat} {den : Dn} {ps : List Str} {x : Str} {p pos : Pos} (O : OkD X.prog X.w X.K X.mg X.base k x ps (spD X.K X.mg C.T false 0 den)) (hr : Room k' X.A) (hk : k ≤ k') (hK : C.K = X.K) (hM : C.mg = X.mg) (hg : Gl X x) (tk : Tk X C)
    (hdb : (x == ("__debug__" : Str)) = false := by decide) : DE X C (.Call (.Name x p) [] [] pos) (eCall0 den) := fun P G => by
  obtain ⟨f, fd, ok, hm, hk1, hb⟩ := O.ok
  refine PE.imp (pe_call0S ok (hr.mono hk) hg hm hk1 hb (fun σ => L2N.passAt tk σ) hdb) fun σ H Q ⟨s, F0, R, h⟩ => ?_
  have g := R.gr
  refine ⟨C.c, F0, [], [], s.c, rfl, rfl, .nil, g.tabs, g.cup, g.fc, g.fsub, g.ftab, ?_⟩
  unfold eCall0 callD at h
  rw [← hK, ← hM]
  cases q : den [] s.c with
  | bad => rw [q] at h; exact h.elim
  | ok d k =>
    rw [q] at h
    exact fun v H' F' g' r' => h v H' F' (rel_call R g') g'.f0 r'
  | exc nm k =>
    rw [q] at h
    exact fun H' F' A g' hA => h H' F' A (gr_call (s := s) g g') hA
end
end PL
set_option maxHeartbeats 2000000
namespace PL
open PySem PySem.Spec PyProof.Rows L2 LamX HotX L2H
section
variable {X : Cx} {C : Ct}
theorem de_errO {words : Option Str → Option D} {x a : Str} {st : Stmt} {c P : Addr} {k k' : Nat} {Ng : List Str} {params : Arguments} {body : Expr} {sc : Scope} {m : M D} {p lpos pos : Pos} (F : DefF X.K X.mg x st) (Sg : FnScope Ng [a] (defScope st)) (b : BindP x st [a]) (hg : Gl X x) (hNg : Ng[0]? = some a) (hva : Vis (defScope st) a)
    (hG : ∀ cdv, GivesN X C.T Ng x (defScope st) (He.ga X.K x) cdv (defBody st) a (X.env.qual ++ "<lambda>") words) (hK : C.K = X.K) (hM : C.mg = X.mg)
    (TB : TabB X.base X.mg c P) (hcode : X.env.code = .ref c) (hmT : (P, X.env.qual ++ "<lambda>") ∈ C.T) (hu : ∀ p ∈ C.T, p.1 = P → p.2 = X.env.qual ++ "<lambda>") (hr : Room k' X.A) (hkk : k + 2 ≤ k') (L : LamS X.env.scope sc) (hdef : defaultsOf params X.env = ([], []))
    (hbind : ∀ (q : Str) (cl : List (Str × Addr)) (pm cv ctv : Value), bindArgs (PySem.W.kla_fn "<lambda>" q params body sc cl pm cv ctv) ⟨[], []⟩ = pure [])
    (hbody : ∀ (A : Around) (outer : List Env) (s : Shared) (H : Hp) (f c' : Addr) (C' : Ct), Room k (A.deeper (lamEnv X sc s.heap.objs.size f c')) → C'.K = X.K → C'.mg = X.mg → C'.T = C.T → C'.c = C.c → DE (lamN X A outer s H C'.W sc f c') C' body m)
    (hdb : (x == ("__debug__" : Str)) = false := by decide) (hd : (a == ("__debug__" : Str)) = false := by decide) (hcd : (a == ("__classdict__" : Str)) = false := by decide) :
    DE X C (.Call (.Name x p) [.Lambda params body sc lpos] [] pos) (eErr words m) := by
  obtain ⟨fd, F1⟩ := F.fn
  have hb : L2.Binds X.K fd [a] [] := F1.bindsN b
  have kp := F1.kp
  obtain ⟨oc, od, dV, kV, doc, pm, an, cdv, ct, osl, rfl, lk, hcd1, _, _⟩ := F1.ex
  exact de_err hg F.g kp lk hcd1 hb Sg hNg hva (hG cdv) hK hM TB hcode hmT hu (hr.mono hkk) L hdef hbind hbody hdb hd hcd
end
theorem eIsE_at {i : Nat} {a : Addr} {b : Bool} {s : S} (h : s.r[i]? = some (.fn a)) : eIsE i a b s = .ok (.bool b) s := by
  unfold eIsE
  rw [h]
  exact if_pos rfl
end PL
set_option maxHeartbeats 2000000
/-! ### the cup that a law draws from -/
namespace PL
open PySem PySem.Spec PyProof.Rows L2 LamX
/-- a name for the rows that are opened at a state that is told -/
theorem ev_set {i : Nat} {k : Sl} {s : S} : put i k s = .ok .nx { s with r := s.r.set i k } := rfl
def CupOk (k : Int × Int) : Prop := 0 ≤ k.1 ∧ 0 ≤ k.2 ∧ k.2 < 2 ^ 40
def spCup (K : PySem.W.Frag) : Sp := fun vs H Q _ => ∃ (a : Addr) (ns : List Int), vs = [.ref a] ∧ SqL K H a (ns.map V.int) ∧ ns.length ≤ 1000 ∧ ∀ H' c k, (∀ b o, H b = some o → H' b = some o) → H c = none → H' c = some (cupO k) → CupOk k → Q (.ref c) H'
theorem cup_len {K : PySem.W.Frag} : ∀ (vs : List V) (H : Hp) (Q : VK) (E : XK), spCup K vs H Q E → vs.length = 1 := by
  rintro vs H Q E ⟨a, ns, rfl, _⟩
  rfl
theorem call_intI {X : Cx} : CallR X (.type "int") (fun xs H Q => ∃ i, xs = [.int i] ∧ Q (.int i) H) := fun pins s σ H xs us Q I r h => call_int1 pins s σ H xs us Q I r (.inl h)
theorem first_int (ns : List Int) : ∃ i : Int, L2.atI (ns.map V.int ++ [V.int 0]) 0 = some (.int i) := by
  cases ns with
  | nil => exact ⟨0, rfl⟩
  | cons n r =>
    refine ⟨n, ?_⟩
    have e : ixN ((n :: r).map V.int ++ [V.int 0]).length 0 = some 0 := by
      unfold ixN
      rw [if_pos (Int.le_refl 0)]
      simp
      omega
    unfold L2.atI
    rw [e]
    rfl
theorem cup_ok (cell : Int) (h : 0 ≤ cell) : CupOk (if 10 ^ 18 ≤ cell then cell / 113 else 0, (cell * 367 + 5347) % 1994132857 + 241) := by
  refine ⟨?_, ?_, ?_⟩
  · dsimp only
    split
    · exact Int.ediv_nonneg h (by decide)
    · exact Int.le_refl 0
  · have := Int.emod_nonneg (cell * 367 + 5347) (b := 1994132857) (by decide)
    show 0 ≤ (cell * 367 + 5347) % 1994132857 + 241
    omega
  · have := Int.emod_lt_of_pos (cell * 367 + 5347) (b := 1994132857) (by decide)
    show (cell * 367 + 5347) % 1994132857 + 241 < 2 ^ 40
    omega
theorem rd_of {K : PySem.W.Frag} {Q : VK} {H : Hp} {a : Addr} {ns : List Int} (hS : SqL K H a (ns.map V.int)) (hl : ns.length ≤ 1000) (q : ∀ H' c k, (∀ b o, H b = some o → H' b = some o) → H c = none → H' c = some (cupO k) → CupOk k → Q (.ref c) H') :
    (tSeq (tAsg (tCB (fun xs H Q => ∃ i, xs = [.int i] ∧ Q (.int (if i < 0 then -i else i)) H) (tCons (tOp (rIxL K) (tOp rCat (tCB (fun xs H Q => ∃ p ys, xs = [.ref p] ∧ (SqL K H p ys ∨ SqT K H p ys) ∧ ∀ l, H l = none → Q (.ref l) (upd H l (.lst ys))) (tCons (tVar 0) tNil)) (tLst (tCons (tC (.int 0)) tNil))) (tC (.int 0))) tNil)) (gName 1))
      (tRet (tLst (tCons (tIf (tB (tOp (rI0 fun i j => .bl (decide (j ≤ i))) (tVar 1) (tOp (rI CPow fun i j => .int (i ^ j.toNat)) (tC (.int 10)) (tC (.int 18))))) (tOp (rI CDiv fun i j => .int (i / j)) (tVar 1) (tC (.int 113))) (tC (.int 0)))
        (tCons (tOp (rI0 fun i j => .int (i + j)) (tOp (rI (fun _ j => 0 < j) fun i j => .int (i % j)) (tCB (fun xs H Q => ∃ i, xs = [.int i] ∧ Q (.int i) H) (tCons (tOp (rI0 fun i j => .int (i + j)) (tOp (rI CMul fun i j => .int (i * j)) (tVar 1) (tC (.int 367))) (tC (.int 5347))) tNil)) (tC (.int 1994132857))) (tC (.int 241))) tNil)))))
      { nx := fun _ H' => Q .non H', rt := Q } (L2.start ["script", "cell"] [.ref a]) H := by
  obtain ⟨i, hi⟩ := first_int ns
  have z1 : (ns.map V.int).length + [V.int 0].length ≤ sizeLine := by rw [sizeLine_eq]; simp; omega
  refine ⟨.ref a, rfl, a, _, rfl, .inl hS, fun l1 n1 => ⟨by decide, fun l2 n2 => ⟨l1, l2, ns.map V.int, [.int 0], rfl, rfl, ?_, upd_same, z1, fun l3 n3 => ⟨l3, _, 0, .int i, rfl, rfl, SqL.of upd_same, hi, i, rfl, ?_⟩⟩⟩⟩
  · rw [upd_ne (ne_of_none upd_same n2)]; exact upd_same
  obtain ⟨cell, ec⟩ : ∃ cell, (if i < 0 then -i else i) = cell := ⟨_, rfl⟩
  rw [ec]
  have hc : 0 ≤ cell := by rw [← ec]; split <;> omega
  have up : ∀ b o, H b = some o → upd (upd (upd H l1 (.lst (ns.map V.int))) l2 (.lst [.int 0])) l3 (.lst (ns.map V.int ++ [.int 0])) b = some o := fun b o e => by
    exact upd_ext n3 _ _ (upd_ext n2 _ _ (upd_ext n1 _ _ e))
  have fin : ∀ x : Int, x = (if 10 ^ 18 ≤ cell then cell / 113 else 0) → ∀ p, upd (upd (upd H l1 (.lst (ns.map V.int))) l2 (.lst [.int 0])) l3 (.lst (ns.map V.int ++ [.int 0])) p = none →
      Q (.ref p) (upd (upd (upd (upd H l1 (.lst (ns.map V.int))) l2 (.lst [.int 0])) l3 (.lst (ns.map V.int ++ [.int 0]))) p (.lst [.int x, .int ((cell * 367 + 5347) % 1994132857 + 241)])) := fun x ex p np => by
    refine q _ p (x, (cell * 367 + 5347) % 1994132857 + 241) (fun b o e => upd_ext np _ _ (up b o e)) ?_ upd_same (by rw [ex]; exact cup_ok cell hc)
    cases e : H p with
    | none => rfl
    | some o => rw [up p o e] at np; cases np
  refine ⟨.int cell, rfl, 10, 18, rfl, rfl, ⟨by decide, by decide, by decide⟩, cell, _, rfl, rfl, _, rfl, ?_⟩
  have e18 : ((10 : Int) ^ (18 : Int).toNat) = 10 ^ 18 := rfl
  rw [e18]
  have rest : ∀ x : Int, x = (if 10 ^ 18 ≤ cell then cell / 113 else 0) → tCons (tOp (rI0 fun i j => .int (i + j)) (tOp (rI (fun _ j => 0 < j) fun i j => .int (i % j)) (tCB (fun xs H Q => ∃ i, xs = [.int i] ∧ Q (.int i) H) (tCons (tOp (rI0 fun i j => .int (i + j)) (tOp (rI CMul fun i j => .int (i * j)) (tVar 1) (tC (.int 367))) (tC (.int 5347))) tNil)) (tC (.int 1994132857))) (tC (.int 241))) tNil
      ((L2.start ["script", "cell"] [.ref a]).set 1 (some (.int cell))) (upd (upd (upd H l1 (.lst (ns.map V.int))) l2 (.lst [.int 0])) l3 (.lst (ns.map V.int ++ [.int 0]))) (fun vs H2 => (V.int x :: vs).length ≤ sizeLine ∧ ∀ p, H2 p = none → Q (.ref p) (upd H2 p (.lst (V.int x :: vs)))) := fun x ex => by
    refine ⟨.int cell, rfl, cell, 367, rfl, rfl, .inr ⟨by decide, by decide⟩, _, _, rfl, rfl, _, rfl, _, _, rfl, rfl, (by show (0 : Int) < 1994132857; decide), _, _, rfl, rfl, (by show 2 ≤ sizeLine; decide), fin x ex⟩
  dsimp only
  by_cases hb : (10 : Int) ^ 18 ≤ cell
  · rw [if_pos (decide_eq_true hb)]
    refine ⟨.int cell, rfl, cell, 113, rfl, rfl, ⟨by decide, by decide⟩, rest _ (by rw [if_pos hb])⟩
  · rw [if_neg (by rw [decide_eq_false hb]; exact Bool.false_ne_true)]
    exact rest 0 (by rw [if_neg hb])

/-! ### the law itself -/
def spLaw (K : PySem.W.Frag) (T : List (Addr × Str)) : Sp := fun vs H Q _ => ∃ (a : Addr) (ns : List Int), vs = [.ref a] ∧ SqL K H a (ns.map V.int) ∧ ns.length ≤ 1000 ∧ Tabs T H ∧ ∀ H', Q (.bl true) H'
theorem law_len {K : PySem.W.Frag} {T : List (Addr × Str)} : ∀ (vs : List V) (H : Hp) (Q : VK) (E : XK), spLaw K T vs H Q E → vs.length = 1 := by
  rintro vs H Q E ⟨a, ns, rfl, _⟩
  rfl
theorem rel_cup0 {C : Ct} {σ : L2.St} {H F : Hp} {k : Int × Int} {i : Nat} (g : Gr C H F k) (h : σ[i]? = some (some (.ref C.c))) : Rel C σ H ⟨(List.replicate σ.length Sl.un).set i .cup, k⟩ F := by
  have un : ∀ (j : Nat) (l : Sl), ((List.replicate σ.length Sl.un).set i .cup)[j]? = some l → isOwn l = false ∧ (l = Sl.un ∨ (j = i ∧ l = .cup)) := fun j l e => by
    by_cases z : j = i
    · subst z
      by_cases hl : j < σ.length
      · rw [List.getElem?_set_self (by simpa using hl)] at e
        cases e
        exact ⟨rfl, .inr ⟨rfl, rfl⟩⟩
      · rw [List.getElem?_eq_none (by simp; omega)] at e
        cases e
    · rw [List.getElem?_set_ne (Ne.symm z), List.getElem?_replicate] at e
      split at e
      · cases e; exact ⟨rfl, .inl rfl⟩
      · cases e
  refine ⟨g, by simp, fun j l e => ?_, fun j j' b l l' e _ o => ?_⟩
  · rcases (un j l e).2 with rfl | ⟨rfl, rfl⟩
    · exact trivial
    · show σ.getD j none = some (.ref C.c)
      rw [List.getD_eq_getElem?_getD, h]
      rfl
  · rw [(un j l e).1] at o
    cases o
theorem gr_first {K : PySem.W.Frag} {mg : Str → Option Value} {T : List (Addr × Str)} {c : Addr} {H : Hp} {E : XK} {k : Int × Int} (hT : Tabs T H) (hc : H c = some (cupO k)) : Gr ⟨K, mg, T, c, H, fun _ => none, [], E⟩ H (fun _ => none) k :=
  ⟨fun _ _ e _ _ => e, fun _ e => e, hT, hc, rfl, (fun _ _ e => nomatch e), sub_refl _, fun _ e _ => e, fun _ _ e => (nomatch e), fun p hp => absurd hp (by simp)⟩
theorem pss_rest {X : Cx} {K : PySem.W.Frag} {mg : Str → Option Value} {T : List (Addr × Str)} {E : XK} {sts : List Stmt} {m : M Fl} (h : ∀ (c : Addr) (H0 F0 : Hp), DSs X ⟨K, mg, T, c, H0, F0, [], E⟩ sts m) : PSs X sts (fun D σ H => ∃ c H0 F0, TDS ⟨K, mg, T, c, H0, F0, [], E⟩ m D σ H) :=
  ⟨fun pins s σ H D I ⟨c, H0, F0, q⟩ => (h c H0 F0 F0).run pins s σ H D I q⟩
/-- behind the first row: the cup is made -/
theorem law_rest {K : PySem.W.Frag} {mg : Str → Option Value} {T : List (Addr × Str)} {E : XK} {N : List Str} {i : Nat} {m : M Fl} {H H' : Hp} {Q : VK} {a c : Addr} {k : Int × Int} {nx : L2.St → Hp → Prop} (hi : i < N.length) (hT : Tabs T H) (e1 : ∀ b o, H b = some o → H' b = some o) (e3 : H' c = some (cupO k)) (hk : CupOk k)
    (math : ∀ k, CupOk k → ∃ s', m ⟨(List.replicate N.length Sl.un).set i .cup, k⟩ = .ok (.rt (.bool true)) s') (q : ∀ H', Q (.bl true) H') :
    ∃ c1 H0 F0, TDS ⟨K, mg, T, c1, H0, F0, [], E⟩ m { nx := nx, rt := Q } ((L2.start N [.ref a]).set i (some (.ref c))) H' := by
  obtain ⟨s', es⟩ := math k hk
  have hl : (L2.start N [V.ref a]).length = N.length := by
    unfold L2.start
    simp
    omega
  have hl2 : ((L2.start N [V.ref a]).set i (some (.ref c))).length = N.length := by rw [List.length_set, hl]
  refine ⟨c, H', fun _ => none, ⟨(List.replicate N.length Sl.un).set i .cup, k⟩, fun _ => none, ?_, ?_⟩
  · have r := rel_cup0 (C := ⟨K, mg, T, c, H', fun _ => none, [], E⟩) (σ := (L2.start N [.ref a]).set i (some (.ref c))) (i := i) (gr_first (hT.ext e1) e3) (List.getElem?_set_self (by rw [hl]; exact hi))
    rw [hl2] at r
    exact r
  · rw [es]
    intro v H'' F'' g r
    cases r
    exact q H''

/-! ### what the head looks at -/
def excCB (K : PySem.W.Frag) (D : Addr) : Bool := He.eqO (PySem.W.findIn K (.ref D) "__getattribute__") (some (some (.builtin "BaseException.__getattribute__"))) && (He.eqO (PySem.W.findIn K (.ref D) "__getattr__") (some none) && (decide (PySem.W.subIn K (.ref D) (.type "BaseException") = some true) && (PySem.W.hasDictIn K D &&
  (He.eqO (PySem.W.findIn K (.ref D) "__class__") (some (some (.builtin "object.__class__"))) && (He.eqO (PySem.W.specialIn K (.builtin "object.__class__") "__get__") (some (some (.builtin "getset_descriptor.__get__"))) && (decide (PySem.W.takesIn K (.builtin "object.__class__") = some true) && decide (PySem.W.mroIn K D (.type "object") = some true)))))))
theorem excC_of {K : PySem.W.Frag} {D : Addr} (h : excCB K D = true) : ExcC K D := by
  obtain ⟨h1, h⟩ := He.ba h
  obtain ⟨h2, h⟩ := He.ba h
  obtain ⟨h3, h⟩ := He.ba h
  obtain ⟨h4, h⟩ := He.ba h
  obtain ⟨h5, h⟩ := He.ba h
  obtain ⟨h6, h⟩ := He.ba h
  obtain ⟨h7, h8⟩ := He.ba h
  exact ⟨He.eqO_ok h1, He.eqO_ok h2, of_decide_eq_true h3, h4, He.eqO_ok h5, He.eqO_ok h6, of_decide_eq_true h7, of_decide_eq_true h8⟩
theorem excO_of {K : PySem.W.Frag} {h : Heap} {mg : Str → Option Value} (X : K.In h) (G : h.Ns mainGlobals mg) {x : Str} (c1 : (He.Fa.glo x).ok K = true) (c2 : (He.Fa.exc x).ok K = true) : ExcO K mg x := by
  obtain ⟨a, b, c, d⟩ := He.exc_ok c2
  exact ⟨He.ga K x, He.glo_ok X G c1, a, b, c, d⟩
theorem all_of {l : List Bool} (h : l.all id = true) {i : Nat} {b : Bool} (e : l[i]? = some b) : b = true := by
  have z := List.all_eq_true.mp h b (List.mem_of_getElem? e)
  exact z
theorem cx_none {P : Program} {w : World} {H : Hp} {s : Shared} {e : Value} {s' : Shared} (h : L2N.CX P w [] H s (fun _ _ _ => False) e s') : False := by
  obtain ⟨_, _, _, _, _, _, _, _, _, _, _, _, z⟩ := h
  exact z
end PL
set_option maxHeartbeats 2000000
namespace PL
open PySem PySem.Spec PyProof.Rows L2 LamX
/-! ### xs[::-1] -/
section
variable {prog : Program} {w : World} {A : Around} {E : Value → Shared → Prop} {s : Shared}
theorem adj_rev (n : Nat) : Builtin.Slice.sliceAdjust none none (-1) (n : Int) = ((n : Int) - 1, -1) := rfl
theorem places_rev (n : Nat) : Builtin.Slice.slicePlaces ((n : Int) - 1) (-1) (-1) = n := by
  unfold Builtin.Slice.slicePlaces
  have h1 : ¬ ((-1 : Int) > 0) := by decide
  simp only [h1, if_false, show (-(-1) : Int) = 1 by decide, Int.ediv_one]
  split <;> omega
theorem applied_rev {sl : Addr} {vs : Value} {n : Nat} {Q : Int × Int × Nat → Shared → Prop} (hs : s.heap.IsSliceOf sl .none .none vs) (ps : IsPart vs (some (-1))) (h : Q ((n : Int) - 1, -1, n) s) : wpAny (model prog w) A (Builtin.Slice.sliceApplied (.ref sl) (pure (n : Int))) Q E s := by
  obtain ⟨os, hos, hcs, hds⟩ := id hs
  unfold Builtin.Slice.sliceApplied Builtin.Slice.sliceFields
  refine wpAny_bind (wpAny_bind (wpAny_field hos hds (x := .none) rfl (wpAny_bind (wpAny_field hos hds (x := .none) rfl (wpAny_bind (wpAny_field hos hds (x := vs) rfl (wpAny_pure ?_)))))))
  refine wpAny_bind (HT.slicePart_ ps ?_)
  show wpAny _ _ (if ((-1 : Int) == 0) = true then _ else _) _ _ s
  rw [if_neg (by decide)]
  refine wpAny_bind (slicePart_none (wpAny_bind (slicePart_none (wpAny_bind (wpAny_pure ?_)))))
  show wpAny _ _ (match Builtin.Slice.sliceAdjust none none (-1) (n : Int) with | (lo, hi) => pure (lo, (-1 : Int), Builtin.Slice.slicePlaces lo hi (-1))) _ _ s
  rw [adj_rev n]
  show wpAny _ _ (pure ((n : Int) - 1, (-1 : Int), Builtin.Slice.slicePlaces ((n : Int) - 1) (-1) (-1))) _ _ s
  rw [places_rev]
  exact wpAny_pure h
theorem pick_rev (xs : Array Value) : ((List.range xs.size).filterMap fun (m : Nat) => xs[((xs.size : Int) - 1 + (m : Int) * (-1)).toNat]?).toArray = xs.toList.reverse.toArray := by
  have e : (fun (m : Nat) => xs[((xs.size : Int) - 1 + (m : Int) * (-1)).toNat]?) = fun m => xs[xs.size - 1 - m]? := by
    funext m
    have : ((xs.size : Int) - 1 + (m : Int) * (-1)).toNat = xs.size - 1 - m := by omega
    rw [this]
  rw [e]
  have h1 : (List.range xs.size).filterMap (fun m => xs[xs.size - 1 - m]?) = ((List.range xs.size).map fun k => xs.size - 1 - k).filterMap (xs[·]?) := by
    rw [List.filterMap_map]
    rfl
  rw [h1, PySem.W.krv_range, List.filterMap_reverse, PySem.W.krv_all]
theorem getItem_rev {t sl : Addr} {items : Array Value} {vs : Value} {Q : Value → Shared → Prop} (ht : IsTup s.heap t items) (hs : s.heap.IsSliceOf sl .none .none vs) (ps : IsPart vs (some (-1)))
    (h : Q (.ref s.heap.objs.size) { s with heap := s.heap.push { cls := .type "tuple", data := .seq items.toList.reverse.toArray } })
    (hsz : items.size ≤ sizeLine) : wpAny (model prog w) A (getItem (.ref t) (.ref sl)) Q E s := by
  have htake : sizeOk (.seq items.toList.reverse.toArray) := by
    show items.toList.reverse.toArray.size ≤ sizeLine
    rw [List.size_toArray, List.length_reverse, Array.length_toList]
    exact hsz
  obtain ⟨os, hos, hcs, hds⟩ := id hs
  have hTs : s.TypeIs (.ref sl) "slice" := ⟨os, hos, hcs⟩
  unfold getItem
  try with_reducible refine wpAny_holding ?_
  first | refine wpAny_bind (wpAny_pure ?_) | skip
  refine wpAny_bind (wpAny_sequenceKey ht.typeIs (by decide) ?_)
  refine wpAny_bind (wpAny_callSpecial?_slot (name := Str.ofString "__getitem__") ht.typeIs PyProof.Rows.slot_tuple_getitem
    (wpAny_call_entry PyProof.Rows.slot_tuple_getitem ht.typeIs entry_tuple_getitem ?_ (args_tuple_getitem _ _)))
  show wpAny _ _ (Builtin.Tuple.tupleItemsOf (.ref t) >>= _) _ _ s
  refine wpAny_bind (tupleItemsOf_ ht ?_)
  refine wpAny_bind (wpAny_typeOf hTs ?_)
  rw [if_pos (by decide)]
  refine wpAny_bind (applied_rev hs ps ?_)
  have hno : ¬ ((((items.size : Int) - 1) == 0 && (-1 : Int) == 1 && items.size == items.size) = true) := by
    intro q
    rw [Bool.and_eq_true, Bool.and_eq_true] at q
    exact absurd q.1.2 (by decide)
  show wpAny _ _ (if (((items.size : Int) - 1) == 0 && (-1 : Int) == 1 && items.size == items.size) = true then _ else _) _ _ s
  rw [if_neg hno, pick_rev]
  first
    | exact wpAny_bind (m := Builtin.Tuple.tupleExact _) (wpAny_newObj_type (wpAny_pure ⟨_, rfl, wpAny_pure h⟩) htake)
    | exact wpAny_bind (m := Builtin.Tuple.tupleExact _) (wpAny_newObj_type (wpAny_bind (wpAny_pure (wpAny_pure ⟨_, rfl, wpAny_pure h⟩))) htake)
    | exact wpAny_bind (wpAny_bind (m := Builtin.Tuple.tupleExact _) (wpAny_newObj_type (wpAny_pure (wpAny_pure ⟨_, rfl, wpAny_pure h⟩)) htake))
    | exact wpAny_bind (wpAny_bind (m := Builtin.Tuple.tupleExact _) (wpAny_newObj_type (wpAny_pure ⟨_, rfl, wpAny_pure h⟩) htake))
end
section
variable {X : Cx} {C : Ct}
def tRevA (K : PySem.W.Frag) (te : TE) : TE := fun σ H Q => te σ H fun x H1 => (∃ a xs, x = .ref a ∧ SqL K H1 a xs ∧ ∀ p, H1 p = none → Q (.ref p) (upd H1 p (.lst xs.reverse))) ∨ (∃ a xs, x = .ref a ∧ SqT K H1 a xs ∧ ∀ p, H1 p = none → Q (.ref p) (upd H1 p (.tup xs.reverse)))
theorem pe_revA {e : Expr} {te : TE} {k : Nat} {p1 p2 p3 pos : Pos} (he : PE X e te) : PE X (.Subscript e (.Slice none none (some (.UnaryOp .USub (.Constant (.int 1) k p1) p2)) p3) pos) (tRevA X.K te) := by
  refine ⟨fun pins s σ H Q I h => ?_⟩
  refine Subscript_ (thn (he.run pins s σ H _ I h) fun v s1 ⟨x, H1, I1, r1, q1⟩ => ?_)
  have hst : PO X (some (.UnaryOp .USub (.Constant (.int 1) k p1) p2)) (tPart (tUn (rU fun i => .int (-i)) (tC (.int 1)))) := po_some (pe_un un_neg pe_int)
  refine wpAny_Slice (thn (po_none.run pins s1 σ H1 (fun o H2 => o = none ∧ H2 = H1) I1 ⟨rfl, rfl⟩) fun vl s2 ⟨l, H2, I2, pl, el, e2⟩ => ?_)
  subst el e2
  refine thn (po_none.run pins s2 σ H2 (fun o H3 => o = none ∧ H3 = H2) I2 ⟨rfl, rfl⟩) fun vu s3 ⟨u, H3, I3, pu, eu, e3⟩ => ?_
  subst eu e3
  refine thn (hst.run pins s3 σ H3 (fun o H4 => o = some (-1) ∧ H4 = H3) I3 ⟨1, rfl, -1, rfl, rfl, rfl⟩) fun vs s4 ⟨o, H4, I4, ps, eo, e4⟩ => ?_
  subst eo e4
  have I5 : Inv X pins σ H4 { s4 with heap := s4.heap.push { cls := .type "slice", data := .fields #[vl, vu, vs] } } := I4.kept (t' := s4.toks) fun b ob q => Heap.get?_push_of_some _ q
  rcases q1 with ⟨a, xs, ex, hx, q⟩ | ⟨a, xs, ex, hx, q⟩
  · subst ex
    cases r1
    obtain ⟨its, r, ht, hz⟩ := I5.list hx
    have hlen := r.length
    show wpAny (model X.prog X.w) X.A (subscriptTail e (.Slice none none (some (.UnaryOp .USub (.Constant (.int 1) k p1) p2)) p3) (.ref a) (.ref s4.heap.objs.size)) (EP X pins σ Q) X.xe { s4 with heap := s4.heap.push { cls := .type "slice", data := .fields #[vl, vu, vs] } }
    refine tail_any (ops := [.ref a, .ref s4.heap.objs.size]) ht.isList.typeIs (PySem.slot_list_getitem.lookup) ?_ (by with_unfolding_all rfl)
    refine wpAny_getItem_list_slice ht.isList (Heap.IsSliceOf.new _ vl vu vs) pl pu ps (by decide) ?_ (by rw [List.size_toArray]; omega)
    rw [PySem.W.krv_pick]
    refine ⟨.ref _, _, I5.laid (t' := s4.toks) (o := .lst xs.reverse) (fun b ob q => Heap.get?_push_of_some _ q) (Nat.le_refl _) ?_, rfl, q _ (I5.hok.fresh (Nat.le_refl _))⟩
    exact ⟨by rw [List.length_reverse]; exact hz, _, 0, r.reverse, Heap.get?_push_size _ rfl⟩
  · subst ex
    cases r1
    cases pl
    cases pu
    obtain ⟨its, r, ht, hz⟩ := I5.tuple hx
    have hlen := r.length
    show wpAny (model X.prog X.w) X.A (subscriptTail e (.Slice none none (some (.UnaryOp .USub (.Constant (.int 1) k p1) p2)) p3) (.ref a) (.ref s4.heap.objs.size)) (EP X pins σ Q) X.xe { s4 with heap := s4.heap.push { cls := .type "slice", data := .fields #[.none, .none, vs] } }
    refine tail_any (ops := [.ref a, .ref s4.heap.objs.size]) ht.typeIs (PyProof.Rows.slot_tuple_getitem.lookup) ?_ (by with_unfolding_all rfl)
    refine getItem_rev ht (Heap.IsSliceOf.new _ .none .none vs) ps ?_ (by rw [List.size_toArray]; omega)
    refine ⟨.ref _, _, I5.laid (t' := s4.toks) (o := .tup xs.reverse) (fun b ob q => Heap.get?_push_of_some _ q) (Nat.le_refl _) ?_, rfl, q _ (I5.hok.fresh (Nat.le_refl _))⟩
    exact ⟨by rw [List.length_reverse]; exact hz, _, r.reverse, IsTup.new _ _⟩
def revD : D → Option D
  | .tuple xs => some (.tuple xs.reverse)
  | .list xs => some (.list xs.reverse)
  | _ => none
theorem dps_rev {K : PySem.W.Frag} {F : Hp} : ∀ {ds : List D} {vs : List V}, RpAll K F vs ds → RpAll K F vs.reverse ds.reverse
  | _, _, .nil => .nil
  | _, _, .cons d h => by
    rw [List.reverse_cons, List.reverse_cons]
    exact dps_app (dps_rev h) (.cons d .nil)
theorem de_rev {a : Expr} {ma : M D} {k : Nat} {p1 p2 p3 pos : Pos} (hK : C.K = X.K) (ha : DE X C a ma) : DE X C (.Subscript a (.Slice none none (some (.UnaryOp .USub (.Constant (.int 1) k p1) p2)) p3) pos) (e1 revD ma) := fun P G => by
  refine PE.imp (pe_revA (ha P G)) fun σ H Q h => ?_
  refine td_imp (tg_bnd h) fun v H2 ⟨d, s2, F2, R2, dp2, p2⟩ => ?_
  obtain ⟨r, er, wr⟩ := post_opt p2
  cases dp2 with
  | lst sx ax =>
    simp only [revD] at er
    cases er
    exact .inl ⟨_, _, rfl, SqL.of (R2.gr.fsub _ _ sx), wn_lst R2 wr (dps_rev ax)⟩
  | @tup a xs ds sx ax =>
    simp only [revD] at er
    cases er
    replace hK : C.K = X.K := hK
    exact .inr ⟨a, xs, rfl, by rw [← hK]; exact SqT.of (R2.gr.fsub _ _ sx), wn_tup R2 wr (dps_rev ax)⟩
  | _ => simp only [revD] at er; cases er
/-- x.extend(e), e a list -/
def sExt (i : Nat) (m : M D) : M Fl := fun s => if (ownL s i).isSome = true then bnd m (fun d s' => match ownL s' i, d with
  | some ds, .list es => if ds.length + es.length ≤ lim then .ok .nx { s' with r := s'.r.set i (.own (.lst (ds ++ es))) } else .bad
  | _, _ => .bad) s else .bad
theorem ds_ext {i : Nat} {x : Str} {e : Expr} {m : M D} {p apos cpos pos : Pos} (hN : X.N[i]? = some x) (hv : Vis X.env.scope x) (he : DE X C e m)
    (hd : (x == ("__debug__" : Str)) = false := by decide) (hcd : (x == ("__classdict__" : Str)) = false := by decide)
    (hbase : attributeBase (.Name x p) "extend" X.env (eval (.Name x p) X.env) = eval (.Name x p) X.env := by rfl)
    (hfew : ((backTo cpos (starEach [e] X.env)).all (fun x => !x.1) && (backToKw cpos (keywordEach [] X.env)).all (fun x => x.1.isSome)
      && decide ([e].length + ([] : List Keyword).length + (if ([] : List Keyword).isEmpty then 0 else 1) < 30)) = true := by rfl)
    (hline : (apos.endLine == cpos.line) = true := by rfl) (hst : starEach [e] X.env = (false, eval e X.env) :: starEach [] X.env := by rfl) (hplain : (backTo cpos (starEach [] X.env)).any (·.1) = false := by rfl)
    (hs : swapsWith (.Call (.Attribute (.Name x p) "extend" apos) [e] [] cpos) none pos.line X.env = pure false := by rfl) :
    DS X C (.Expr (.Call (.Attribute (.Name x p) "extend" apos) [e] [] cpos) pos) (sExt i m) := fun G => by
  refine PS.imp (ps_expr (pe_bm PySem.F.plainAttrs_list PySem.F.slot_list_extend PySem.F.type_list_extend mt_extend (pe_var hN hv hd hcd) (pa_cons (he C.P G) pa_nil hst) hbase hfew hline hst hplain) hs) fun E σ H ⟨s, F, R, h⟩ => ?_
  unfold sExt at h
  split at h
  · rename_i hs
    obtain ⟨ds, ed⟩ := Option.isSome_iff_exists.mp hs
    obtain ⟨a, vs, e1, e2, e3⟩ := ownL_ok R ed
    refine ⟨.ref a, getD_some e1, .inl ⟨rfl, vs, SqL.of e2⟩, ?_⟩
    refine td_imp (ts_bnd (rep := Rp C.K) R h) fun v H2 ⟨d, s2, F2, R2, dp, p⟩ => ?_
    cases q : ownL s2 i with
    | none => simp only [q] at p; exact p.elim
    | some es =>
      simp only [q] at p
      obtain ⟨a2, ws, g1, g2, g3⟩ := ownL_ok R2 q
      rw [e1] at g1
      cases g1
      cases dp with
      | lst sx ax =>
        simp only at p
        split at p
        · rename_i hl
          refine ⟨a, _, ws, _, rfl, rfl, g2, R2.gr.fsub _ _ sx, lim_line (by rw [dps_len g3, dps_len ax]; exact hl), ?_⟩
          exact p _ _ F2 (rel_mut (ho' := .lst (ws ++ _)) (ds' := .lst (es ++ _)) R2 (ownL_at q) e1 (dps_app g3 ax))
        · exact p.elim
      | _ => exact p.elim
  · exact h.elim
end
end PL
set_option maxHeartbeats 2000000
namespace PL
open PySem PySem.Spec PyProof.Rows L2 LamX
section
variable {X : Cx} {C : Ct}
/-! ### math.gcd; the least, the greatest of a list; in a tuple of the module -/
def gcdD : List D → Option D
  | [.int a, .int b] => some (.int ((Nat.gcd a.natAbs b.natAbs : Nat) : Int))
  | _ => none
theorem cr_gcdD : CallR X (.builtin "math.gcd") (RLok C gcdD) := by
  intro pins s σ H xs us Q I r h
  obtain ⟨σ', s', F, ds, r0, R, dp, er, wr⟩ := h
  unfold gcdD at er
  split at er
  · cases er
    obtain ⟨v, w, e, q1, q2⟩ := dps2 dp
    subst e
    cases q1
    cases q2
    exact cr_gcd pins s σ H _ us Q I r ⟨_, _, rfl, wn_int R wr⟩
  · cases er
theorem de_bfun {f : List D → Option D} {id : String} {x : Str} {p pos : Pos} {e : Expr} {es : List Expr} {m : M (List D)} (hc : ∀ P G, CallR X (.builtin id) (RLok { C with P := P, F0 := G } f)) (hg : Gl X x) (hm : X.mg x = some (.builtin id)) (ha : DA X C (e :: es) m)
    (hdb : (x == ("__debug__" : Str)) = false := by decide) (he : starEach (e :: es) X.env = (false, eval e X.env) :: starEach es X.env := by rfl) (hpl : (backTo pos (starEach es X.env)).any (·.1) = false := by rfl) : DE X C (.Call (.Name x p) (e :: es) [] pos) (eA f m) := fun P G =>
  PE.imp (pe_callBfun (hc P G) hg hm (ha P G) hdb he hpl) fun σ H Q h => td_imp (tg_bnd h) fun vs H2 ⟨ds, s2, F2, R2, dp2, p2⟩ => let ⟨r, er, wr⟩ := post_opt p2; ⟨σ, s2, F2, ds, r, R2, dp2, er, wr⟩
def foldMin : Int → List Int → Int
  | m, [] => m
  | m, x :: l => foldMin (if x < m then x else m) l
theorem foldMin_spec : ∀ (l : List Int) (m : Int), (foldMin m l = m ∨ foldMin m l ∈ l) ∧ foldMin m l ≤ m ∧ ∀ x ∈ l, foldMin m l ≤ x
  | [], m => ⟨.inl rfl, Int.le_refl m, fun x hx => absurd hx (by simp)⟩
  | x :: l, m => by
    obtain ⟨h1, h2, h3⟩ := foldMin_spec l (if x < m then x else m)
    show (foldMin (if x < m then x else m) l = m ∨ foldMin (if x < m then x else m) l ∈ x :: l) ∧ foldMin (if x < m then x else m) l ≤ m ∧ ∀ y ∈ x :: l, foldMin (if x < m then x else m) l ≤ y
    obtain ⟨f, hf⟩ : ∃ f, foldMin (if x < m then x else m) l = f := ⟨_, rfl⟩
    rw [hf] at h1 h2 h3 ⊢
    refine ⟨?_, ?_, fun y hy => ?_⟩
    · rcases h1 with h1 | h1
      · rw [h1]
        split
        · exact .inr List.mem_cons_self
        · exact .inl rfl
      · exact .inr (List.mem_cons_of_mem _ h1)
    · split at h2 <;> omega
    · rcases List.mem_cons.mp hy with rfl | hy
      · split at h2 <;> omega
      · exact h3 y hy
def minLD : List D → Option D
  | [.list xs] => match asInts xs with
    | some (n :: ns) => some (.int (foldMin n ns))
    | _ => none
  | _ => none
theorem cr_minLD (hc : X.calm = true) : CallR X (.builtin "min") (RLok C minLD) := by
  intro pins s σ H xs us Q I r h
  obtain ⟨σ', s', F, ds, r0, R, dp, er, wr⟩ := h
  unfold minLD at er
  split at er
  · rename_i xs0
    obtain ⟨v, e, q⟩ := dps1 dp
    subst e
    split at er
    · rename_i n ns e2
      cases er
      cases q with
      | lst sx ax =>
        rw [asInts_vs ax e2] at sx
        refine cr_min hc pins s σ H _ us Q I r ⟨_, _, rfl, SqL.of (R.gr.fsub _ _ sx), by simp, fun m hm hall => ?_⟩
        obtain ⟨h1, h2, h3⟩ := foldMin_spec ns n
        have e3 : foldMin n ns = m := by
          have a1 : foldMin n ns ≤ m := by
            rcases List.mem_cons.mp hm with rfl | hm
            · exact h2
            · exact h3 m hm
          have a2 : m ≤ foldMin n ns := by
            rcases h1 with h1 | h1
            · rw [h1]
              exact hall n List.mem_cons_self
            · exact hall _ (List.mem_cons_of_mem _ h1)
          omega
        rw [← e3]
        exact wn_int R wr
    · cases er
  · cases er
def foldMax : Int → List Int → Int
  | m, [] => m
  | m, x :: l => foldMax (if m < x then x else m) l
theorem foldMax_spec : ∀ (l : List Int) (m : Int), (foldMax m l = m ∨ foldMax m l ∈ l) ∧ m ≤ foldMax m l ∧ ∀ x ∈ l, x ≤ foldMax m l
  | [], m => ⟨.inl rfl, Int.le_refl m, fun x hx => absurd hx (by simp)⟩
  | x :: l, m => by
    obtain ⟨h1, h2, h3⟩ := foldMax_spec l (if m < x then x else m)
    show (foldMax (if m < x then x else m) l = m ∨ foldMax (if m < x then x else m) l ∈ x :: l) ∧ m ≤ foldMax (if m < x then x else m) l ∧ ∀ y ∈ x :: l, y ≤ foldMax (if m < x then x else m) l
    obtain ⟨f, hf⟩ : ∃ f, foldMax (if m < x then x else m) l = f := ⟨_, rfl⟩
    rw [hf] at h1 h2 h3 ⊢
    refine ⟨?_, ?_, fun y hy => ?_⟩
    · rcases h1 with h1 | h1
      · rw [h1]
        split
        · exact .inr List.mem_cons_self
        · exact .inl rfl
      · exact .inr (List.mem_cons_of_mem _ h1)
    · split at h2 <;> omega
    · rcases List.mem_cons.mp hy with rfl | hy
      · split at h2 <;> omega
      · exact h3 y hy
def maxLD : List D → Option D
  | [.list xs] => match asInts xs with
    | some (n :: ns) => some (.int (foldMax n ns))
    | _ => none
  | _ => none
theorem cr_maxLD (hc : X.calm = true) : CallR X (.builtin "max") (RLok C maxLD) := by
  intro pins s σ H xs us Q I r h
  obtain ⟨σ', s', F, ds, r0, R, dp, er, wr⟩ := h
  unfold maxLD at er
  split at er
  · rename_i xs0
    obtain ⟨v, e, q⟩ := dps1 dp
    subst e
    split at er
    · rename_i n ns e2
      cases er
      cases q with
      | lst sx ax =>
        rw [asInts_vs ax e2] at sx
        refine cr_max hc pins s σ H _ us Q I r ⟨_, _, rfl, SqL.of (R.gr.fsub _ _ sx), by simp, fun m hm hall => ?_⟩
        obtain ⟨h1, h2, h3⟩ := foldMax_spec ns n
        have e3 : foldMax n ns = m := by
          have a1 : m ≤ foldMax n ns := by
            rcases List.mem_cons.mp hm with rfl | hm
            · exact h2
            · exact h3 m hm
          have a2 : foldMax n ns ≤ m := by
            rcases h1 with h1 | h1
            · rw [h1]
              exact hall n List.mem_cons_self
            · exact hall _ (List.mem_cons_of_mem _ h1)
          omega
        rw [← e3]
        exact wn_int R wr
    · cases er
  · cases er
/-- a tuple of ints that stands in K -/
def TupG (K : PySem.W.Frag) (a : Addr) (xs : List Int) : Prop := ∃ (o : Obj) (its : Array Value) (n : Nat), K.lookup a = some o ∧ o.cls = .type "tuple" ∧ o.data = .seq its n ∧ its.size ≤ sizeLine ∧ Vals (xs.map V.int) its.toList
def intsB : List Int → List Value → Bool
  | [], [] => true
  | x :: xs, .int i _ :: vs => decide (i = x) && intsB xs vs
  | _, _ => false
theorem intsB_ok : ∀ {xs : List Int} {vs : List Value}, intsB xs vs = true → Vals (xs.map V.int) vs
  | [], [], _ => .nil
  | [], _ :: _, h => by cases h
  | _ :: _, [], h => by cases h
  | x :: xs, v :: vs, h => by
    cases v with
    | int i t =>
      have h' : (decide (i = x) && intsB xs vs) = true := h
      rw [Bool.and_eq_true, decide_eq_true_eq] at h'
      obtain ⟨rfl, h2⟩ := h'
      exact .cons ⟨t, rfl⟩ (intsB_ok h2)
    | _ => cases h
def tupB (K : PySem.W.Frag) (a : Addr) (xs : List Int) : Bool := match K.lookup a with
  | some ⟨.type c, _, .seq its _, _⟩ => decide (c = "tuple") && (decide (its.size ≤ sizeLine) && intsB xs its.toList)
  | _ => false
theorem tupB_ok {K : PySem.W.Frag} {a : Addr} {xs : List Int} (h : tupB K a xs = true) : TupG K a xs := by
  unfold tupB at h
  split at h
  · rename_i c od its n sl q
    rw [Bool.and_eq_true, Bool.and_eq_true, decide_eq_true_eq, decide_eq_true_eq] at h
    obtain ⟨rfl, h2, h3⟩ := h
    exact ⟨_, its, n, q, rfl, rfl, h2, intsB_ok h3⟩
  · cases h
def inGD (xs : List Int) : D → Option D
  | .int v => some (.bool (decide (v ∈ xs)))
  | _ => none
theorem inV_ints (v : Int) : ∀ xs : List Int, inV (.int v) (xs.map V.int) = decide (v ∈ xs)
  | [] => rfl
  | x :: xs => by
    have ih := inV_ints v xs
    show ((x == v) || inV (.int v) (xs.map V.int)) = _
    rw [ih]
    by_cases h : x = v
    · subst h
      simp
    · have h2 : ¬ v = x := fun e => h e.symm
      simp [h, h2]
theorem flat_ints : ∀ xs : List Int, (xs.map V.int).all flatV = true
  | [] => rfl
  | x :: xs => flat_ints xs
theorem td_inG {K0 : PySem.W.Frag} {xs : List Int} {g : Addr} {ma : M D} {σ : L2.St} {H : Hp} {Q : VK} (hK : C.K = K0) (hG : TupG K0 g xs) (h : TD C (e1 (inGD xs) ma) σ H Q) : tOp (rIn K0 false) (TD C ma) (tC (.ref g)) σ H Q := by
  obtain ⟨s, F, R, h⟩ := h
  refine td_imp (td_bnd R h) fun v H2 ⟨d, s2, F2, R2, e2, dp2, p2⟩ => ?_
  obtain ⟨r, er, wr⟩ := post_opt p2
  unfold inGD at er
  split at er
  · rename_i i
    cases er
    cases dp2
    refine ⟨g, xs.map V.int, rfl, .inr (.inr hG), rfl, flat_ints xs, ?_⟩
    show Q (.bl (inV (.int _) (xs.map V.int))) H2
    rw [inV_ints]
    exact wn_bl R2 wr
  · cases er
theorem de_inG {xs : List Int} {g : Addr} {x : Str} {a : Expr} {ma : M D} {p pos : Pos} (hK : C.K = X.K) (hg : Gl X x) (hm : X.mg x = some (.ref g)) (hG : TupG X.K g xs) (ha : DE X C a ma) (hd : (x == ("__debug__" : Str)) = false := by decide) (hb : behindInMarks .In (.Name x p) = false := by rfl) :
    DE X C (.Compare a [.In] [.Name x p] pos) (e1 (inGD xs) ma) := fun P G =>
  PE.imp (pe_cmpR op_in_seq (ha P G) (pe_glob (v := .ref g) hg hm rfl hd) hb) fun _ _ _ h => td_inG (C := { C with P := P, F0 := G }) hK hG h
theorem dt_inG {xs : List Int} {g : Addr} {x : Str} {a : Expr} {ma : M D} {p pos : Pos} (hK : C.K = X.K) (hg : Gl X x) (hm : X.mg x = some (.ref g)) (hG : TupG X.K g xs) (ha : DE X C a ma) (hd : (x == ("__debug__" : Str)) = false := by decide) (hb : behindInMarks .In (.Name x p) = false := by rfl) :
    DT X C (.Compare a [.In] [.Name x p] pos) (tV (e1 (inGD xs) ma)) := fun P G =>
  PT.imp (pt_cmpR op_in_seq (ha P G) (pe_glob (v := .ref g) hg hm rfl hd) hb) fun _ _ _ h => td_inG (C := { C with P := P, F0 := G }) hK hG (td_tV h)
end
end PL
set_option maxHeartbeats 2000000
/-! ### rows of the state monad, in plain terms -/
namespace PL
open PySem
theorem bnd_eq {α β : Type} {m : M α} {f : α → M β} {s s' : S} {a : α} (h : m s = .ok a s') : bnd m f s = f a s' := by
  unfold bnd
  rw [h]
/-- two lists, place by place -/
inductive Al {α β : Type} (P : α → β → Prop) : List α → List β → Prop
  | nil : Al P [] []
  | cons {x : α} {y : β} {xs : List α} {ys : List β} : P x y → Al P xs ys → Al P (x :: xs) (y :: ys)
theorem Al.len {α β : Type} {P : α → β → Prop} {xs : List α} {ys : List β} (h : Al P xs ys) : ys.length = xs.length := by
  induction h with
  | nil => rfl
  | cons _ _ ih => simp [ih]
theorem Al.map {α β : Type} {f : α → β} {xs : List α} {ys : List β} (h : Al (fun x y => y = f x) xs ys) : ys = xs.map f := by
  induction h with
  | nil => rfl
  | cons e _ ih => rw [e, ih]; rfl
theorem Al.of {α β : Type} {P : α → β → Prop} {Q : β → Prop} {xs : List α} {ys : List β} (h : Al P xs ys) (i : ∀ x y, P x y → Q y) : ∀ y ∈ ys, Q y := by
  induction h with
  | nil => exact fun y hy => absurd hy (by simp)
  | cons e _ ih =>
    intro z hz
    rcases List.mem_cons.mp hz with rfl | hz
    · exact i _ _ e
    · exact ih z hz
/-- a comprehension without a test: I of the cup, r0 the slots within -/
theorem lcGo_all {asg : D → M Unit} {elt : M D} {vs : List Nat} {I : Int × Int → Prop} {P : D → D → Prop} {r0 : List Sl} : ∀ (xs acc : List D) (k : Int × Int), acc.length + xs.length ≤ lim → I k →
    (∀ x ∈ xs, ∀ k, I k → ∃ y r' k', bnd (asg x) (fun _ => elt) ⟨r0, k⟩ = .ok y ⟨r', k'⟩ ∧ wipeS r' vs = r0 ∧ P x y ∧ I k') →
    ∃ ys k', lcGo asg (ret true) elt vs xs acc ⟨r0, k⟩ = .ok (acc ++ ys) ⟨r0, k'⟩ ∧ Al P xs ys ∧ I k'
  | [], acc, k, _, hI, _ => ⟨[], k, by unfold lcGo; rw [List.append_nil]; rfl, .nil, hI⟩
  | x :: xs, acc, k, hl, hI, h => by
    obtain ⟨y, r', k1, e, hw, p, hI1⟩ := h x List.mem_cons_self k hI
    simp only [List.length_cons] at hl
    obtain ⟨ys, k2, e2, a2, hI2⟩ := lcGo_all xs (acc ++ [y]) k1 (by simp; omega) hI1 fun z hz => h z (List.mem_cons_of_mem _ hz)
    refine ⟨y :: ys, k2, ?_, .cons p a2, hI2⟩
    unfold lcGo
    unfold bnd at e
    cases q : asg x ⟨r0, k⟩ with
    | exc n s => rw [q] at e; cases e
    | bad => rw [q] at e; cases e
    | ok u s1 =>
      rw [q] at e
      dsimp only at e
      rw [bnd_eq q, bnd_eq (show (ret true : M Bool) s1 = .ok true s1 from rfl), if_pos rfl, bnd_eq e, if_pos (by omega)]
      have e3 : wp vs ⟨r', k1⟩ = .ok () ⟨r0, k1⟩ := by unfold wp; rw [hw]
      rw [bnd_eq e3, e2, List.append_assoc]
      rfl
theorem eLc_all {src : M (List D)} {asg : D → M Unit} {elt : M D} {vs : List Nat} {I : Int × Int → Prop} {P : D → D → Prop} {s s1 : S} {r0 r2 : List Sl} {xs : List D} (hs : src s = .ok xs s1) (hI : I s1.c) (hl : xs.length ≤ lim) (h0 : wipeS s1.r vs = r0) (h2 : rstS s1.r r0 vs = r2)
    (h : ∀ x ∈ xs, ∀ k, I k → ∃ y r' k', bnd (asg x) (fun _ => elt) ⟨r0, k⟩ = .ok y ⟨r', k'⟩ ∧ wipeS r' vs = r0 ∧ P x y ∧ I k') :
    ∃ ys k', eLc src asg (ret true) elt vs s = .ok ys ⟨r2, k'⟩ ∧ Al P xs ys ∧ I k' := by
  obtain ⟨ys, k', e, a, hI'⟩ := lcGo_all (asg := asg) (elt := elt) (vs := vs) (I := I) (P := P) (r0 := r0) xs [] s1.c (by simpa using hl) hI h
  refine ⟨ys, k', ?_, a, hI'⟩
  unfold eLc
  refine (bnd_eq hs).trans ?_
  rw [h0, e, List.nil_append]
  dsimp only
  rw [h2]
/-- .. the cup untouched, each item told -/
theorem eLc_map {src : M (List D)} {asg : D → M Unit} {elt : M D} {vs : List Nat} {f : D → D} {s s1 : S} {r0 r2 : List Sl} {xs : List D} (hs : src s = .ok xs s1) (hl : xs.length ≤ lim) (h0 : wipeS s1.r vs = r0) (h2 : rstS s1.r r0 vs = r2)
    (h : ∀ x ∈ xs, ∃ r', bnd (asg x) (fun _ => elt) ⟨r0, s1.c⟩ = .ok (f x) ⟨r', s1.c⟩ ∧ wipeS r' vs = r0) : eLc src asg (ret true) elt vs s = .ok (xs.map f) ⟨r2, s1.c⟩ := by
  obtain ⟨ys, k', e, a, hI⟩ := eLc_all (I := fun k => k = s1.c) (P := fun x y => y = f x) hs rfl hl h0 h2 fun x hx k hk => by
    subst hk
    obtain ⟨r', e, w⟩ := h x hx
    exact ⟨f x, r', _, e, w, rfl, rfl⟩
  rw [e, hI, a.map]
/-- .. with a test -/
theorem lcGo_filter {asg : D → M Unit} {tst : M Bool} {elt : M D} {vs : List Nat} {p : D → Bool} {f : D → D} {r0 : List Sl} {k : Int × Int} : ∀ (xs acc : List D), acc.length + xs.length ≤ lim →
    (∀ x ∈ xs, ∃ r1, bnd (asg x) (fun _ => tst) ⟨r0, k⟩ = .ok (p x) ⟨r1, k⟩ ∧ if p x = true then ∃ r2, elt ⟨r1, k⟩ = .ok (f x) ⟨r2, k⟩ ∧ wipeS r2 vs = r0 else wipeS r1 vs = r0) →
    lcGo asg tst elt vs xs acc ⟨r0, k⟩ = .ok (acc ++ (xs.filter p).map f) ⟨r0, k⟩
  | [], acc, _, _ => by unfold lcGo; simp [PL.ret]
  | x :: xs, acc, hl, h => by
    obtain ⟨r1, e1, h1⟩ := h x List.mem_cons_self
    simp only [List.length_cons] at hl
    unfold lcGo
    unfold bnd at e1
    cases q : asg x ⟨r0, k⟩ with
    | exc n s => rw [q] at e1; cases e1
    | bad => rw [q] at e1; cases e1
    | ok u s1 =>
      rw [q] at e1
      dsimp only at e1
      rw [bnd_eq q, bnd_eq e1]
      cases hp : p x with
      | true =>
        rw [hp, if_pos rfl] at h1
        obtain ⟨r2, e2, w⟩ := h1
        rw [if_pos rfl, bnd_eq e2, if_pos (by omega)]
        have e3 : wp vs ⟨r2, k⟩ = .ok () ⟨r0, k⟩ := by unfold wp; rw [w]
        rw [bnd_eq e3, lcGo_filter xs (acc ++ [f x]) (by simp; omega) fun z hz => h z (List.mem_cons_of_mem _ hz), List.filter_cons_of_pos hp]
        simp
      | false =>
        rw [hp, if_neg Bool.false_ne_true] at h1
        have e3 : wp vs ⟨r1, k⟩ = .ok () ⟨r0, k⟩ := by unfold wp; rw [h1]
        rw [if_neg Bool.false_ne_true, bnd_eq e3, lcGo_filter xs acc (by omega) fun z hz => h z (List.mem_cons_of_mem _ hz), List.filter_cons_of_neg (by rw [hp]; exact Bool.false_ne_true)]
theorem eLc_filter {src : M (List D)} {asg : D → M Unit} {tst : M Bool} {elt : M D} {vs : List Nat} {p : D → Bool} {f : D → D} {s s1 : S} {r0 r2 : List Sl} {xs : List D} (hs : src s = .ok xs s1) (hl : xs.length ≤ lim) (h0 : wipeS s1.r vs = r0) (h2 : rstS s1.r r0 vs = r2)
    (h : ∀ x ∈ xs, ∃ r1, bnd (asg x) (fun _ => tst) ⟨r0, s1.c⟩ = .ok (p x) ⟨r1, s1.c⟩ ∧ if p x = true then ∃ r2, elt ⟨r1, s1.c⟩ = .ok (f x) ⟨r2, s1.c⟩ ∧ wipeS r2 vs = r0 else wipeS r1 vs = r0) : eLc src asg tst elt vs s = .ok ((xs.filter p).map f) ⟨r2, s1.c⟩ := by
  unfold eLc
  refine (bnd_eq hs).trans ?_
  rw [h0, lcGo_filter xs [] (by simpa using hl) h, List.nil_append]
  dsimp only
  rw [h2]
/-- a loop that goes through: J of the place and the state -/
theorem forL_all {asg : D → M Unit} {body : M Fl} {J : Nat → S → Prop} : ∀ (xs : List D) (i : Nat) (s : S), J i s →
    (∀ j x s, xs[j]? = some x → J (i + j) s → ∃ s', bnd (asg x) (fun _ => body) s = .ok .nx s' ∧ J (i + j + 1) s') → ∃ s', forL asg body xs s = .ok .nx s' ∧ J (i + xs.length) s'
  | [], i, s, hJ, _ => ⟨s, rfl, hJ⟩
  | x :: xs, i, s, hJ, h => by
    obtain ⟨s1, e, hJ1⟩ := h 0 x s rfl hJ
    obtain ⟨s2, e2, hJ2⟩ := forL_all xs (i + 1) s1 hJ1 fun j y t hy ht => by
      have z := h (j + 1) y t (by simpa using hy) (by rw [show i + (j + 1) = i + 1 + j by omega]; exact ht)
      rw [show i + (j + 1) + 1 = i + 1 + j + 1 by omega] at z
      exact z
    refine ⟨s2, ?_, by rw [List.length_cons, show i + (xs.length + 1) = i + 1 + xs.length by omega]; exact hJ2⟩
    unfold forL
    unfold bnd at e
    cases q : asg x s with
    | exc n s => rw [q] at e; cases e
    | bad => rw [q] at e; cases e
    | ok u s' =>
      rw [q] at e
      dsimp only at e
      rw [bnd_eq q, bnd_eq e]
      exact e2
/-- a loop that ends with a value at the place n -/
theorem forL_ret {asg : D → M Unit} {body : M Fl} {J : Nat → S → Prop} {d : D} {s2 : S} : ∀ (n : Nat) (xs : List D) (i : Nat) (s : S) (x : D), xs[n]? = some x → J i s →
    (∀ j y s, j < n → xs[j]? = some y → J (i + j) s → ∃ s', bnd (asg y) (fun _ => body) s = .ok .nx s' ∧ J (i + j + 1) s') → (∀ s, J (i + n) s → bnd (asg x) (fun _ => body) s = .ok (.rt d) s2) → forL asg body xs s = .ok (.rt d) s2
  | 0, [], _, _, _, hx, _, _, _ => by cases hx
  | 0, y :: xs, i, s, x, hx, hJ, _, he => by
    cases hx
    have e := he s hJ
    unfold forL
    unfold bnd at e
    cases q : asg y s with
    | exc n s => rw [q] at e; cases e
    | bad => rw [q] at e; cases e
    | ok u s' =>
      rw [q] at e
      dsimp only at e
      rw [bnd_eq q, bnd_eq e]
      rfl
  | n + 1, [], _, _, _, hx, _, _, _ => by cases hx
  | n + 1, y :: xs, i, s, x, hx, hJ, h, he => by
    obtain ⟨s1, e, hJ1⟩ := h 0 y s (by omega) rfl hJ
    have e2 := forL_ret (d := d) (s2 := s2) n xs (i + 1) s1 x (by simpa using hx) hJ1 (fun j z t hj hz ht => by
      have q := h (j + 1) z t (by omega) (by simpa using hz) (by rw [show i + (j + 1) = i + 1 + j by omega]; exact ht)
      rw [show i + (j + 1) + 1 = i + 1 + j + 1 by omega] at q
      exact q) fun t ht => he t (by rw [show i + (n + 1) = i + 1 + n by omega]; exact ht)
    unfold forL
    unfold bnd at e
    cases q : asg y s with
    | exc n s => rw [q] at e; cases e
    | bad => rw [q] at e; cases e
    | ok u s' =>
      rw [q] at e
      dsimp only at e
      rw [bnd_eq q, bnd_eq e]
      exact e2
/-- a loop while: J of how many turns are left -/
theorem whL_all {mt : M Bool} {mb : M Fl} {J : Nat → S → Prop} : ∀ (n fuel : Nat) (s : S), n < fuel → J n s →
    (∀ s, J 0 s → ∃ s', mt s = .ok false s' ∧ J 0 s') → (∀ i s, J (i + 1) s → ∃ s1 s2, mt s = .ok true s1 ∧ mb s1 = .ok .nx s2 ∧ J i s2) → ∃ s', whL mt mb fuel s = .ok .nx s' ∧ J 0 s'
  | 0, fuel + 1, s, _, hJ, h0, _ => by
    obtain ⟨s', e, hJ'⟩ := h0 s hJ
    refine ⟨s', ?_, hJ'⟩
    unfold whL
    rw [bnd_eq e]
    rfl
  | n + 1, fuel + 1, s, hf, hJ, h0, h1 => by
    obtain ⟨s1, s2, e1, e2, hJ2⟩ := h1 n s hJ
    obtain ⟨s3, e3, hJ3⟩ := whL_all n fuel s2 (by omega) hJ2 h0 h1
    refine ⟨s3, ?_, hJ3⟩
    unfold whL
    rw [bnd_eq e1, if_pos rfl, bnd_eq e2]
    exact e3
  | n, 0, _, hf, _, _, _ => by omega
/-! ### one row at a time -/
section
variable {s s1 s2 s3 : S} {d x y r : D} {ds : List D} {m m1 m2 ma mb : M D} {b : Bool} {i : Nat} {k : Int × Int}
theorem sq_nx {a c : M Fl} {f : Fl} (h : a s = .ok .nx s1) (h2 : c s1 = .ok f s2) : sq a c s = .ok f s2 := by
  unfold sq
  rw [bnd_eq h]
  exact h2
theorem sq_rt {a c : M Fl} (h : a s = .ok (.rt d) s1) : sq a c s = .ok (.rt d) s1 := by
  unfold sq
  rw [bnd_eq h]
  rfl
theorem sSet_eq (h : m s = .ok d s1) : sSet i m s = .ok .nx { s1 with r := s1.r.set i (.val d) } := by
  unfold sSet
  rw [bnd_eq h]
  rfl
theorem sOwn_eq {m : M (List D)} (h : m s = .ok ds s1) : sOwn i m s = .ok .nx { s1 with r := s1.r.set i (.own (.lst ds)) } := by
  unfold sOwn
  rw [bnd_eq h]
  rfl
theorem sRet_eq (h : m s = .ok d s1) : sRet m s = .ok (.rt d) s1 := by
  unfold sRet
  rw [bnd_eq h]
  rfl
theorem sExp_eq (h : m s = .ok d s1) : sExp m s = .ok .nx s1 := by
  unfold sExp
  rw [bnd_eq h]
  rfl
theorem sIf_t {t : M Bool} {a c : M Fl} (h : t s = .ok true s1) : sIf t a c s = a s1 := by
  unfold sIf
  rw [bnd_eq h, if_pos rfl]
theorem sIf_f {t : M Bool} {a c : M Fl} (h : t s = .ok false s1) : sIf t a c s = c s1 := by
  unfold sIf
  rw [bnd_eq h, if_neg Bool.false_ne_true]
theorem eIf_t {t : M Bool} (h : t s = .ok true s1) : eIf t ma mb s = ma s1 := by
  unfold eIf
  rw [bnd_eq h, if_pos rfl]
theorem eIf_f {t : M Bool} (h : t s = .ok false s1) : eIf t ma mb s = mb s1 := by
  unfold eIf
  rw [bnd_eq h, if_neg Bool.false_ne_true]
theorem e2_eq {f : D → D → Option D} (ha : ma s = .ok x s1) (hb : mb s1 = .ok y s2) (hf : f x y = some r) : e2 f ma mb s = .ok r s2 := by
  unfold e2
  rw [bnd_eq ha, bnd_eq hb]
  unfold opt
  rw [hf]
theorem e1_eq {f : D → Option D} (ha : ma s = .ok x s1) (hf : f x = some r) : e1 f ma s = .ok r s1 := by
  unfold e1
  rw [bnd_eq ha]
  unfold opt
  rw [hf]
theorem aCons_eq {q : M (List D)} (h : m s = .ok d s1) (h2 : q s1 = .ok ds s2) : aCons m q s = .ok (d :: ds) s2 := by
  unfold aCons
  rw [bnd_eq h, bnd_eq h2]
  rfl
theorem eA_eq {f : List D → Option D} {q : M (List D)} (h : q s = .ok ds s1) (hf : f ds = some r) : eA f q s = .ok r s1 := by
  unfold eA
  rw [bnd_eq h]
  unfold opt
  rw [hf]
theorem eA1_eq {f : List D → Option D} (h : m s = .ok d s1) (hf : f [d] = some r) : eA f (aCons m aNil) s = .ok r s1 := eA_eq (aCons_eq h rfl) hf
theorem frz_eq {q : M (List D)} (h : q s = .ok ds s1) : frz q s = .ok (.list ds) s1 := by
  unfold frz
  rw [bnd_eq h]
  rfl
theorem tV_eq (h : m s = .ok (.bool b) s1) : tV m s = .ok b s1 := by
  unfold tV
  rw [bnd_eq h]
  rfl
theorem tNot_eq {t : M Bool} (h : t s = .ok b s1) : tNot t s = .ok (!b) s1 := by
  unfold tNot
  rw [bnd_eq h]
  rfl
theorem tAnd_t {t u : M Bool} (h : t s = .ok true s1) : tAnd t u s = u s1 := by
  unfold tAnd
  rw [bnd_eq h, if_pos rfl]
theorem tAnd_f {t u : M Bool} (h : t s = .ok false s1) : tAnd t u s = .ok false s1 := by
  unfold tAnd
  rw [bnd_eq h, if_neg Bool.false_ne_true]
  rfl
theorem tOr_t {t u : M Bool} (h : t s = .ok true s1) : tOr t u s = .ok true s1 := by
  unfold tOr
  rw [bnd_eq h, if_pos rfl]
  rfl
theorem tOr_f {t u : M Bool} (h : t s = .ok false s1) : tOr t u s = u s1 := by
  unfold tOr
  rw [bnd_eq h, if_neg Bool.false_ne_true]
theorem asB_eq (h : ma s = .ok (.bool b) s1) : bnd ma asB s = .ok b s1 := (bnd_eq h).trans rfl
theorem eAnd_t (h : ma s = .ok (.bool true) s1) : eAnd ma mb s = mb s1 := by
  unfold eAnd
  rw [bnd_eq (asB_eq h), if_pos rfl]
theorem eAnd_f (h : ma s = .ok (.bool false) s1) : eAnd ma mb s = .ok (.bool false) s1 := by
  unfold eAnd
  rw [bnd_eq (asB_eq h), if_neg Bool.false_ne_true]
  rfl
theorem eOr_t (h : ma s = .ok (.bool true) s1) : eOr ma mb s = .ok (.bool true) s1 := by
  unfold eOr
  rw [bnd_eq (asB_eq h), if_pos rfl]
  rfl
theorem eOr_f (h : ma s = .ok (.bool false) s1) : eOr ma mb s = mb s1 := by
  unfold eOr
  rw [bnd_eq (asB_eq h), if_neg Bool.false_ne_true]
theorem eNot_eq (h : ma s = .ok (.bool b) s1) : eNot ma s = .ok (.bool !b) s1 := by
  unfold eNot
  rw [bnd_eq (asB_eq h)]
  rfl
theorem pkF_eq {α : Type} {q : M α} {a : α} {f : D → α → Option D} {d0 : D} (hp : peek s i = some d0) (h : q s = .ok a s1) (hp1 : peek s1 i = some d) (hf : f d a = some r) : pkF i q f s = .ok r s1 := by
  unfold pkF
  rw [if_pos (by rw [hp]; rfl)]
  refine (bnd_eq h).trans ?_
  unfold opt
  simp only [hp1, hf]
theorem eCall_eq {den : Dn} {q : M (List D)} (h : q s = .ok ds s1) (hd : den ds s1.c = .ok d k) : eCall none den q s = .ok d { s1 with c := k } := by
  unfold eCall
  rw [if_pos (show hasCup none s = true from rfl), bnd_eq h]
  unfold callD
  rw [hd]
theorem eCallC_eq {den : Dn} {q : M (List D)} (hc : hasCup (some i) s = true) (h : q s = .ok ds s1) (hd : den ds s1.c = .ok d k) : eCall (some i) den q s = .ok d { s1 with c := k } := by
  unfold eCall
  rw [if_pos hc, bnd_eq h]
  unfold callD
  rw [hd]
theorem eCall0_eq {den : Dn} (hd : den [] s.c = .ok d k) : eCall0 den s = .ok d { s with c := k } := by
  unfold eCall0 callD
  rw [hd]
theorem sApp_eq {ds0 : List D} (h0 : ownL s i = some ds0) (h : m s = .ok d s1) (h1 : ownL s1 i = some ds) (hl : ds.length < lim) : sApp i m s = .ok .nx { s1 with r := s1.r.set i (.own (.lst (ds ++ [d]))) } := by
  unfold sApp
  rw [if_pos (by rw [h0]; rfl)]
  refine (bnd_eq h).trans ?_
  simp only [h1, if_pos hl]
theorem sFor_eq {src : M (List D)} {asg : D → M Unit} {body : M Fl} {f : Fl} (h : src s = .ok ds s1) (h2 : forL asg body ds s1 = .ok f s2) : sFor src asg body s = .ok f s2 := by
  unfold sFor
  rw [bnd_eq h]
  exact h2
theorem den_rt {N : Nat} {cf : Bool} {q : M Fl} {args : List D} {r0 : List Sl} (h : q ⟨r0, k⟩ = .ok (.rt d) s1) (hi : initS N cf args = r0 := by rfl) : denOf N cf q args k = .ok d s1.c := by
  subst hi
  unfold denOf
  rw [h]
theorem den_nx {N : Nat} {cf : Bool} {q : M Fl} {args : List D} {r0 : List Sl} (h : q ⟨r0, k⟩ = .ok .nx s1) (hi : initS N cf args = r0 := by rfl) : denOf N cf q args k = .ok .none s1.c := by
  subst hi
  unfold denOf
  rw [h]
theorem eChain_eq {f g : D → D → Option D} {mc : M D} {z : D} {p q : Bool} (ha : ma s = .ok x s1) (hb : mb s1 = .ok y s2) (hc : mc s2 = .ok z s2) (hf : f x y = some (.bool p)) (hg : g y z = some (.bool q)) : eChain f g ma mb mc s = .ok (.bool (p && q)) s2 := by
  unfold eChain
  rw [bnd_eq ha, bnd_eq hb, bnd_eq (asB_eq (ma := opt (f x y)) (b := p) (s1 := s2) (by unfold opt; rw [hf]))]
  cases p with
  | true =>
    rw [if_pos rfl, bnd_eq hc]
    unfold opt
    rw [hg]
    rfl
  | false => rw [if_neg Bool.false_ne_true]; rfl
end
theorem len_tup (l : List D) : lenD [.tuple l] = some (.int l.length) := rfl
theorem len_lst (l : List D) : lenD [.list l] = some (.int l.length) := rfl
theorem rng1_nat {n : Nat} (h : (n : Int) ≤ 1000000000) (s : S) : rng1 [.int (n : Int)] s = .ok (rngL 0 n) s := by
  have h2 : -(2 ^ 62) ≤ (n : Int) ∧ (n : Int) < 2 ^ 62 := by omega
  have e : rng1 [.int (n : Int)] = ret (rngL 0 (n : Int).toNat) := by
    unfold rng1
    exact if_pos h2
  rw [e, Int.toNat_natCast]
  rfl
theorem rng2_int {i j : Int} (hi : 0 ≤ i) (hj : j ≤ 1000000000) (hij : i ≤ 1000000000) (hj0 : 0 ≤ j) (s : S) : rng2 [.int i, .int j] s = .ok (rngL i (j - i).toNat) s := by
  have h2 : -(2 ^ 62) ≤ i ∧ i < 2 ^ 62 ∧ -(2 ^ 62) ≤ j ∧ j < 2 ^ 62 := by omega
  have e : rng2 [.int i, .int j] = ret (rngL i (j - i).toNat) := by
    unfold rng2
    exact if_pos h2
  rw [e]
  rfl
theorem asg_eq {α : Type} {m0 : M Unit} {q : M α} {a : α} {s s1 s2 : S} (h : m0 s = .ok () s1) (h2 : q s1 = .ok a s2) : bnd m0 (fun _ => q) s = .ok a s2 := (bnd_eq h).trans h2
theorem src_eq {α β : Type} {q : M α} {f : α → M β} {a : α} {y : β} {s s1 s2 : S} (h : q s = .ok a s1) (h2 : f a s1 = .ok y s2) : bnd q f s = .ok y s2 := (bnd_eq h).trans h2
theorem gN_eq {i : Nat} {d : D} {r : List Sl} {k : Int × Int} : gN i d ⟨r, k⟩ = .ok () ⟨r.set i (.val d), k⟩ := rfl
/-! ### lists of numbers -/
abbrev zs (l : List Int) : List D := l.map PyData.int
theorem zs_len (l : List Int) : (zs l).length = l.length := by simp [zs]
theorem zs_get {l : List Int} {i : Nat} {v : Int} (h : l[i]? = some v) : (zs l)[i]? = some (.int v) := by simp [zs, h]
theorem eqv_zs : ∀ a b : List Int, PyData.eqvAll (zs a) (zs b) = decide (a = b)
  | [], [] => by simp [zs, PyData.eqvAll]
  | [], _ :: _ => by simp [zs, PyData.eqvAll]
  | _ :: _, [] => by simp [zs, PyData.eqvAll]
  | x :: a, y :: b => by
    have h := eqv_zs a b
    show PyData.eqvAll (.int x :: zs a) (.int y :: zs b) = _
    unfold PyData.eqvAll
    rw [h]
    have e : PyData.eqv (.int x) (.int y) = decide (x = y) := by
      unfold PyData.eqv
      rw [Bool.eq_iff_iff]
      simp
    rw [e]
    by_cases h1 : x = y <;> by_cases h2 : a = b <;> simp [h1, h2]
theorem lay_zs : ∀ a : List Int, PyData.canLayAll0 (zs a) = true
  | [] => rfl
  | x :: a => by
    show PyData.canLayAll0 (.int x :: zs a) = true
    unfold PyData.canLayAll0
    rw [lay_zs a]
    rfl
theorem dep_zs : ∀ a : List Int, PyData.depthAll (zs a) = 0
  | [] => rfl
  | x :: a => by
    show PyData.depthAll (.int x :: zs a) = 0
    unfold PyData.depthAll
    rw [dep_zs a]
    rfl
theorem sh_lst (a : List Int) : shD (.list (zs a)) = true := by
  unfold shD SeqAt.shaped
  rw [Bool.and_eq_true]
  refine ⟨lay_zs a, decide_eq_true ?_⟩
  show PyData.depthAll (zs a) + 1 ≤ 64
  rw [dep_zs]
  decide
theorem sh_tup (a : List Int) : shD (.tuple (zs a)) = true := by
  unfold shD SeqAt.shaped
  rw [Bool.and_eq_true]
  refine ⟨lay_zs a, decide_eq_true ?_⟩
  show PyData.depthAll (zs a) + 1 ≤ 64
  rw [dep_zs]
  decide
theorem eq_lst (a b : List Int) : eqD (.list (zs a)) (.list (zs b)) = some (.bool (decide (a = b))) := by
  unfold eqD
  rw [sh_lst, sh_lst, if_pos (show (true && true) = true from rfl)]
  show some (PyData.bool (PyData.eqvAll (zs a) (zs b))) = _
  rw [eqv_zs]
theorem eq_int (i j : Int) : eqD (.int i) (.int j) = some (.bool (decide (i = j))) := by
  show some (PyData.bool (PyData.eqv (.int i) (.int j))) = _
  unfold PyData.eqv
  congr 2
/-! ### own dicts whose keys are tuples of numbers -/
def kz (l : List Int) : List L2.Key := l.map Sum.inl
theorem kz_inj : ∀ {a b : List Int}, kz a = kz b → a = b
  | [], [], _ => rfl
  | [], _ :: _, h => by simp [kz] at h
  | _ :: _, [], h => by simp [kz] at h
  | x :: a, y :: b, h => by
    have h' : (Sum.inl x : L2.Key) :: kz a = Sum.inl y :: kz b := h
    injection h' with h1 h2
    injection h1 with h1
    rw [h1, kz_inj h2]
theorem keys_zs : ∀ l : List Int, keysD (zs l) = some (kz l)
  | [] => rfl
  | x :: l => by
    show keysD (.int x :: zs l) = _
    unfold keysD
    rw [keys_zs l]
    rfl
theorem look_no {kvs : List (List L2.Key × D)} {k : List L2.Key} (h : ∀ p ∈ kvs, p.1 ≠ k) : lookD kvs k = none := by
  unfold lookD
  rw [List.find?_eq_none.mpr fun p hp => by simpa using h p hp]
  rfl
theorem look_at {kvs pre post : List (List L2.Key × D)} {k : List L2.Key} {v : D} (e : kvs = pre ++ (k, v) :: post) (h : ∀ p ∈ pre, p.1 ≠ k) : lookD kvs k = some v := by
  subst e
  unfold lookD
  rw [List.find?_append, List.find?_eq_none.mpr fun p hp => by simpa using h p hp]
  simp
theorem put_no {kvs : List (List L2.Key × D)} {k : List L2.Key} {v : D} (h : ∀ p ∈ kvs, p.1 ≠ k) : putD kvs k v = kvs ++ [(k, v)] := by
  unfold putD
  rw [if_neg]
  intro z
  obtain ⟨p, hp, e⟩ := List.any_eq_true.mp z
  exact h p hp (by simpa using e)
section
variable {s s1 s2 : S} {d v : D} {ds : List D} {m mv me : M D} {i : Nat} {kvs kvs0 : List (List L2.Key × D)} {ks : List L2.Key}
theorem eDin_eq (h : m s = .ok (.tuple ds) s1) (ho : ownT s1 i = some kvs) (hk : keysD ds = some ks) : eDin i false m s = .ok (.bool (lookD kvs ks).isSome) s1 := by
  unfold eDin
  refine (bnd_eq h).trans ?_
  simp only [ho, hk]
  rfl
theorem eDget_eq (h0 : ownT s i = some kvs0) (h : m s = .ok (.tuple ds) s1) (ho : ownT s1 i = some kvs) (hk : keysD ds = some ks) (hl : lookD kvs ks = some v) : eDget i m s = .ok v s1 := by
  unfold eDget
  rw [if_pos (by rw [h0]; rfl)]
  refine (bnd_eq h).trans ?_
  simp only [ho, hk, hl]
theorem sDput_eq (hv : mv s = .ok d s1) (h0 : ownT s1 i = some kvs0) (h : me s1 = .ok (.tuple ds) s2) (ho : ownT s2 i = some kvs) (hk : keysD ds = some ks) (hl : kvs.length < lim) : sDput i mv me s = .ok .nx { s2 with r := s2.r.set i (.own (.dT (putD kvs ks d))) } := by
  unfold sDput
  refine (bnd_eq hv).trans ?_
  rw [if_pos (by rw [h0]; rfl)]
  refine (bnd_eq h).trans ?_
  simp only [ho, hk, if_pos hl]
end
end PL
set_option maxHeartbeats 2000000
/-! ### comprehensions over a list of known make; errors; rows of numbers -/
namespace PL
open PySem
theorem lcGo_pick {α : Type} {e f : α → D} {p : α → Bool} {asg : D → M Unit} {tst : M Bool} {elt : M D} {vs : List Nat} {r0 : List Sl} {k : Int × Int} : ∀ (l : List α) (acc : List D), acc.length + l.length ≤ lim →
    (∀ a ∈ l, ∃ r1, bnd (asg (e a)) (fun _ => tst) ⟨r0, k⟩ = .ok (p a) ⟨r1, k⟩ ∧ (p a = true → ∃ r2, elt ⟨r1, k⟩ = .ok (f a) ⟨r2, k⟩ ∧ wipeS r2 vs = r0) ∧ (p a = false → wipeS r1 vs = r0)) →
    lcGo asg tst elt vs (l.map e) acc ⟨r0, k⟩ = .ok (acc ++ (l.filter p).map f) ⟨r0, k⟩
  | [], acc, _, _ => by
    show PL.ret acc ⟨r0, k⟩ = _
    simp [PL.ret]
  | a :: l, acc, hl, h => by
    obtain ⟨r1, e1, h1, h2⟩ := h a List.mem_cons_self
    simp only [List.length_cons] at hl
    rw [List.map_cons]
    unfold lcGo
    unfold bnd at e1
    cases q : asg (e a) ⟨r0, k⟩ with
    | exc n s => rw [q] at e1; cases e1
    | bad => rw [q] at e1; cases e1
    | ok u s1 =>
      rw [q] at e1
      dsimp only at e1
      rw [bnd_eq q, bnd_eq e1]
      cases hp : p a with
      | true =>
        obtain ⟨r2, e2, w⟩ := h1 hp
        rw [if_pos rfl, bnd_eq e2, if_pos (by omega)]
        have e3 : wp vs ⟨r2, k⟩ = .ok () ⟨r0, k⟩ := by unfold wp; rw [w]
        rw [bnd_eq e3, lcGo_pick l (acc ++ [f a]) (by simp; omega) fun z hz => h z (List.mem_cons_of_mem _ hz), List.filter_cons_of_pos hp]
        simp
      | false =>
        have e3 : wp vs ⟨r1, k⟩ = .ok () ⟨r0, k⟩ := by unfold wp; rw [h2 hp]
        rw [if_neg Bool.false_ne_true, bnd_eq e3, lcGo_pick l acc (by omega) fun z hz => h z (List.mem_cons_of_mem _ hz), List.filter_cons_of_neg (by rw [hp]; exact Bool.false_ne_true)]
theorem eLc_pick {α : Type} {e : α → D} {p : α → Bool} (f : α → D) {src : M (List D)} {asg : D → M Unit} {tst : M Bool} {elt : M D} {vs : List Nat} {s s1 : S} {r0 r2 : List Sl} {l : List α} (hs : src s = .ok (l.map e) s1) (hl : l.length ≤ lim) (h0 : wipeS s1.r vs = r0) (h2 : rstS s1.r r0 vs = r2)
    (h : ∀ a ∈ l, ∃ r1, bnd (asg (e a)) (fun _ => tst) ⟨r0, s1.c⟩ = .ok (p a) ⟨r1, s1.c⟩ ∧ (p a = true → ∃ r2, elt ⟨r1, s1.c⟩ = .ok (f a) ⟨r2, s1.c⟩ ∧ wipeS r2 vs = r0) ∧ (p a = false → wipeS r1 vs = r0)) :
    eLc src asg tst elt vs s = .ok ((l.filter p).map f) ⟨r2, s1.c⟩ := by
  unfold eLc
  refine (bnd_eq hs).trans ?_
  rw [h0, lcGo_pick l [] (by simpa using hl) h, List.nil_append]
  dsimp only
  rw [h2]
theorem lcGo_of {α : Type} {e f : α → D} {asg : D → M Unit} {elt : M D} {vs : List Nat} {r0 : List Sl} {k : Int × Int} : ∀ (l : List α) (acc : List D), acc.length + l.length ≤ lim →
    (∀ a ∈ l, ∃ r', bnd (asg (e a)) (fun _ => elt) ⟨r0, k⟩ = .ok (f a) ⟨r', k⟩ ∧ wipeS r' vs = r0) → lcGo asg (ret true) elt vs (l.map e) acc ⟨r0, k⟩ = .ok (acc ++ l.map f) ⟨r0, k⟩
  | [], acc, _, _ => by
    show PL.ret acc ⟨r0, k⟩ = _
    simp [PL.ret]
  | a :: l, acc, hl, h => by
    obtain ⟨r', e1, w⟩ := h a List.mem_cons_self
    simp only [List.length_cons] at hl
    rw [List.map_cons]
    unfold lcGo
    unfold bnd at e1
    cases q : asg (e a) ⟨r0, k⟩ with
    | exc n s => rw [q] at e1; cases e1
    | bad => rw [q] at e1; cases e1
    | ok u s1 =>
      rw [q] at e1
      dsimp only at e1
      have e3 : wp vs ⟨r', k⟩ = .ok () ⟨r0, k⟩ := by unfold wp; rw [w]
      rw [bnd_eq q, bnd_eq (show (ret true : M Bool) s1 = .ok true s1 from rfl), if_pos rfl, bnd_eq e1, if_pos (by omega), bnd_eq e3, lcGo_of l (acc ++ [f a]) (by simp; omega) fun z hz => h z (List.mem_cons_of_mem _ hz)]
      simp
theorem eLc_of {α : Type} {e : α → D} (f : α → D) {src : M (List D)} {asg : D → M Unit} {elt : M D} {vs : List Nat} {s s1 : S} {r0 r2 : List Sl} {l : List α} (hs : src s = .ok (l.map e) s1) (hl : l.length ≤ lim) (h0 : wipeS s1.r vs = r0) (h2 : rstS s1.r r0 vs = r2)
    (h : ∀ a ∈ l, ∃ r', bnd (asg (e a)) (fun _ => elt) ⟨r0, s1.c⟩ = .ok (f a) ⟨r', s1.c⟩ ∧ wipeS r' vs = r0) : eLc src asg (ret true) elt vs s = .ok (l.map f) ⟨r2, s1.c⟩ := by
  unfold eLc
  refine (bnd_eq hs).trans ?_
  rw [h0, lcGo_of l [] (by simpa using hl) h, List.nil_append]
  dsimp only
  rw [h2]
/-! ### what is raised -/
section
variable {s s1 s2 : S} {d : D} {ds : List D} {k : Int × Int} {n : Str}
theorem sq_go {a c : M Fl} (h : a s = .ok .nx s1) : sq a c s = c s1 := by
  unfold sq
  rw [bnd_eq h]
theorem sq_exc {a c : M Fl} (h : a s = .exc n s1) : sq a c s = .exc n s1 := by
  unfold sq bnd
  rw [h]
theorem sExp_exc {m : M D} (h : m s = .exc n s1) : sExp m s = .exc n s1 := by
  unfold sExp bnd
  rw [h]
theorem sRet_exc {m : M D} (h : m s = .exc n s1) : sRet m s = .exc n s1 := by
  unfold sRet bnd
  rw [h]
theorem den_exc {N : Nat} {cf : Bool} {q : M Fl} {args : List D} {r0 : List Sl} (h : q ⟨r0, k⟩ = .exc n s1) (hi : initS N cf args = r0 := by rfl) : denOf N cf q args k = .exc n s1.c := by
  subst hi
  unfold denOf
  rw [h]
theorem eCall_exc {den : Dn} {q : M (List D)} (h : q s = .ok ds s1) (hd : den ds s1.c = .exc n k) : eCall none den q s = .exc n { s1 with c := k } := by
  unfold eCall
  rw [if_pos (show hasCup none s = true from rfl), bnd_eq h]
  unfold callD
  rw [hd]
theorem sStI_eq {i : Nat} {me mj : M D} {ds0 es : List D} {j : Int} (h : me s = .ok d s1) (h0 : ownL s1 i = some ds0) (hj : mj s1 = .ok (.int j) s2) (h1 : ownL s2 i = some ds) (hs : setI ds j d = some es) : sStI i me mj s = .ok .nx { s2 with r := s2.r.set i (.own (.lst es)) } := by
  unfold sStI
  refine (bnd_eq h).trans ?_
  refine (if_pos (by rw [h0]; rfl)).trans ?_
  refine (bnd_eq hj).trans ?_
  simp only [h1, hs]
theorem eErr_ok {words : Option Str → Option D} {m : M D} {r : D} (h : m { s with r := s.r.map hideO } = .ok d s1) (hw : words none = some r) : eErr words m s = .ok r { s with c := s1.c } := by
  unfold eErr
  rw [h]
  dsimp only
  rw [hw]
theorem eErr_exc {words : Option Str → Option D} {m : M D} {r : D} (h : m { s with r := s.r.map hideO } = .exc n s1) (hw : words (some n) = some r) : eErr words m s = .ok r { s with c := s1.c } := by
  unfold eErr
  rw [h]
  dsimp only
  rw [hw]
end
/-! ### numbers -/
theorem mul_l {i : Int} (h : -1000000 ≤ i ∧ i ≤ 1000000) (j : Int) : mulD (.int i) (.int j) = some (.int (i * j)) := by
  have w : w64 i = true := by
    unfold w64
    rw [decide_eq_true_eq]
    omega
  show (if (w64 i || w64 j || decide (i.natAbs.log2 + j.natAbs.log2 < 1000000)) = true then some (PyData.int (i * j)) else none) = _
  rw [w]
  rfl
theorem mul_r (i : Int) {j : Int} (h : -1000000 ≤ j ∧ j ≤ 1000000) : mulD (.int i) (.int j) = some (.int (i * j)) := by
  have w : w64 j = true := by
    unfold w64
    rw [decide_eq_true_eq]
    omega
  show (if (w64 i || w64 j || decide (i.natAbs.log2 + j.natAbs.log2 < 1000000)) = true then some (PyData.int (i * j)) else none) = _
  rw [w, Bool.or_true]
  rfl
theorem asInts_zs' : ∀ l : List Int, asInts (zs l) = some l
  | [] => rfl
  | n :: l => by
    show asInts (.int n :: zs l) = _
    unfold asInts
    rw [asInts_zs' l]
    rfl
theorem sum_zs (l : List Int) : sumD [.list (zs l)] = some (.int l.sum) := by
  show (asInts (zs l)).map _ = _
  rw [asInts_zs']
  rfl
theorem asB_bools : ∀ l : List Bool, asBools (l.map PyData.bool) = some l
  | [] => rfl
  | b :: l => by
    show asBools (.bool b :: l.map PyData.bool) = _
    unfold asBools
    rw [asB_bools l]
    rfl
theorem all_bools (l : List Bool) : allD [.list (l.map PyData.bool)] = some (.bool (l.all id)) := by
  show (asBools (l.map PyData.bool)).map _ = _
  rw [asB_bools]
  rfl
theorem at_nat {l : List D} {i : Nat} {d : D} (h : l[i]? = some d) : L2.atI l (i : Int) = some d := by
  have hi := (List.getElem?_eq_some_iff.mp h).1
  unfold L2.atI L2.ixN
  rw [if_pos (by omega), if_pos (by omega)]
  simp [h]
theorem idx_tup {l : List D} {i : Nat} {d : D} (h : l[i]? = some d) : idxD (.tuple l) (.int (i : Int)) = some d := at_nat h
theorem idx_lst {l : List D} {i : Nat} {d : D} (h : l[i]? = some d) : idxD (.list l) (.int (i : Int)) = some d := at_nat h
def pr2 (q : Int × Int) : D := .tuple [.int q.1, .int q.2]
theorem pairs_zs : ∀ a b : List Int, pairs (zs a) (zs b) = (a.zip b).map pr2
  | [], _ => by simp [zs, pairs]
  | _ :: _, [] => by simp [zs, pairs]
  | x :: a, y :: b => by
    show PyData.tuple [.int x, .int y] :: pairs (zs a) (zs b) = _
    rw [pairs_zs a b]
    rfl
theorem eq_tup (a b : List Int) : eqD (.tuple (zs a)) (.tuple (zs b)) = some (.bool (decide (a = b))) := by
  unfold eqD
  rw [sh_tup, sh_tup, if_pos (show (true && true) = true from rfl)]
  show some (PyData.bool (PyData.eqvAll (zs a) (zs b))) = _
  rw [eqv_zs]
end PL
set_option maxHeartbeats 2000000
/-! ### defs in slots: a for over a tuple of defs, a call of a local name -/
namespace PL
open PySem PySem.Spec PyProof.Rows L2 LamX
def sFns (i : Nat) : List (Addr × M Fl) → M Fl
  | [] => ret .nx
  | p :: r => fun s => bnd p.2 (fun f => match f with
    | .nx => sFns i r
    | .ct => sFns i r
    | .bk => ret .nx
    | .rt d => ret (.rt d)) { s with r := s.r.set i (.fn p.1) }
def eCallF (i : Nat) (a : Addr) (ci : Option Nat) (den : Dn) (m : M (List D)) : M D := fun s => match s.r[i]? with
  | some (.fn a') => if a' = a then eCall ci den m s else .bad
  | _ => .bad
theorem eCallF_at {i : Nat} {a : Addr} {ci : Option Nat} {den : Dn} {m : M (List D)} {s : S} (h : s.r[i]? = some (.fn a)) : eCallF i a ci den m s = eCall ci den m s := by
  unfold eCallF
  rw [h]
  exact if_pos rfl
section
variable {X : Cx} {C : Ct}
/-- a slot takes a def -/
theorem rel_setFn {σ : L2.St} {H F : Hp} {s : S} (R : Rel C σ H s F) {i : Nat} {a : Addr} : Rel C (σ.set i (some (.ref a))) H { s with r := s.r.set i (.fn a) } F := by
  refine ⟨R.gr, by simp [R.len], fun j k e => ?_, fun j l b k k' e1 e2 o1 o2 h1 h2 => ?_⟩
  · by_cases hj : j = i
    · subst hj
      have hl : j < s.r.length := by
        have := (List.getElem?_eq_some_iff.mp e).1
        simpa using this
      rw [List.getElem?_set_self hl] at e
      cases e
      show _ = _
      rw [List.getD_eq_getElem?_getD, List.getElem?_set_self (by rw [← R.len]; exact hl)]; rfl
    · rw [List.getElem?_set_ne (Ne.symm hj)] at e
      have x := R.sl j k e
      rw [List.getD_eq_getElem?_getD] at x ⊢
      rw [List.getElem?_set_ne (Ne.symm hj)]
      exact x
  · have key : ∀ {m : Nat} {k : Sl}, (s.r.set i (.fn a))[m]? = some k → isOwn k = true → m ≠ i := fun {m k} e o z => by
      subst z
      have hl : m < s.r.length := by
        have := (List.getElem?_eq_some_iff.mp e).1
        simpa using this
      rw [List.getElem?_set_self hl] at e
      cases e
      cases o
    have n1 := key e1 o1
    have n2 := key e2 o2
    rw [List.getElem?_set_ne (Ne.symm n1)] at e1
    rw [List.getElem?_set_ne (Ne.symm n2)] at e2
    rw [List.getD_eq_getElem?_getD, List.getElem?_set_ne (Ne.symm n1)] at h1
    rw [List.getD_eq_getElem?_getD, List.getElem?_set_ne (Ne.symm n2)] at h2
    exact R.dis j l b k k' e1 e2 o1 o2 (by rw [List.getD_eq_getElem?_getD]; exact h1) (by rw [List.getD_eq_getElem?_getD]; exact h2)
/-- names of defs, one by one -/
def FnsE (X : Cx) (es : List Expr) (as : List Addr) : Prop := PA X es (fun _ H Q => Q (as.map V.ref) H)
theorem fns_nil : FnsE X [] [] := pa_nil
theorem fns_cons {x : Str} {a : Addr} {p : Pos} {es : List Expr} {as : List Addr} (hg : Gl X x) (hm : X.mg x = some (.ref a)) (h : FnsE X es as) (hd : (x == ("__debug__" : Str)) = false := by decide)
    (hs : starEach (.Name x p :: es) X.env = (false, eval (.Name x p) X.env) :: starEach es X.env := by rfl) : FnsE X (.Name x p :: es) (a :: as) :=
  PA.imp (pa_cons (pe_glob (v := .ref a) hg hm rfl hd) h hs) fun σ H Q q => q
theorem fb_nil {body : List Stmt} : ∀ p ∈ ([] : List (Addr × M Fl)), DSs X C body p.2 := fun p h => by cases h
theorem fb_cons {body : List Stmt} {q : Addr × M Fl} {l : List (Addr × M Fl)} (h : DSs X C body q.2) (t : ∀ p ∈ l, DSs X C body p.2) : ∀ p ∈ q :: l, DSs X C body p.2 := fun p hp => by
  cases hp with
  | head => exact h
  | tail _ hp => exact t p hp
theorem ds_forF {i c : Nat} {x : Str} {es : List Expr} {body : List Stmt} {l : List (Addr × M Fl)} {px pt pos : Pos} (hp : PassesOwn (model X.prog X.w) X.A X.env X.xe) (hc : X.calm = true) (hK : C.K = X.K) (hN : X.N.Nodup) (hi : X.N[i]? = some x) (hx : Loc X.env.scope x)
    (ha : FnsE X es (l.map (·.1))) (hb : ∀ p ∈ l, DSs X C body p.2) (hl : l.length ≤ sizeLine) (hf : X.fn x = true ∨ X.env.scope.names.lookup x = some .local := by first | exact .inl rfl | exact .inr rfl | assumption)
    (hs : ∀ y, foldedSetIterable (.Tuple es c pt) X.env y = pure y := by intro _; rfl) : DS X C (.For (.Name x px) (.Tuple es c pt) body [] pos) (sFns i l) := fun G0 => by
  have hbb : PSs X body (fun E σ H => ∃ p ∈ l, ∃ G, TDS { C with F0 := G } p.2 E σ H) := ⟨fun pins s σ H D I ⟨p, hp, G, q⟩ => (hb p hp G).run pins s σ H D I q⟩
  refine PS.imp (ps_for hp hc (pi_tup (pe_tup ha)) (pg_name hN hi hx hf) hbb hs) fun E σ H h => ?_
  generalize hC : ({ C with F0 := G0 } : Ct) = C1 at h
  have hCC : ∀ G, ({ C with F0 := G } : Ct) = { C1 with F0 := G } := fun G => by rw [← hC]
  have hK1 : C1.K = X.K := by rw [← hC]; exact hK
  simp only [hCC]
  clear hCC hb hbb hC
  obtain ⟨s0, F0, R0, h0⟩ := h
  refine ⟨by simpa using hl, fun a hfree => ?_⟩
  refine ⟨a, rfl, ⟨_, SqT.of upd_same⟩, ?_⟩
  have R1 : Rel C1 σ (upd H a (.tup ((l.map (·.1)).map V.ref))) s0 (upd F0 a (.tup ((l.map (·.1)).map V.ref))) := rel_new R0 hfree (fun ps z => nomatch z)
  generalize hF2 : upd F0 a (.tup ((l.map (·.1)).map V.ref)) = F2 at R1
  have hat : F2 a = some (.tup ((l.map (·.1)).map V.ref)) := by rw [← hF2]; exact upd_same
  have hlen : ((l.map (·.1)).map V.ref).length = l.length := by simp
  have W : Walk (Itt X.K a) l.length (fun H => SqT X.K H a ((l.map (·.1)).map V.ref)) (YAt ((l.map (·.1)).map V.ref)) := hlen ▸ walk_tup
  refine for_it (g := gName i) (tb := fun E σ H => ∃ p ∈ l, ∃ G, TDS { C1 with F0 := G } p.2 E σ H) (D := E) W (fun i' σ' H' => ∃ s F, Rel { C1 with F0 := F2 } σ' H' s F ∧ PostS C1 E (sFns i (l.drop i') s)) ⟨s0, F2, rel_to R1 (sub_refl F2) (fun a e _ => e), h0⟩ (fun i' σ' H' _ ⟨s, F, R, _⟩ => SqT.of (R.gr.fsub _ _ (R.gr.f0 _ _ hat))) ?_ ?_
  · intro j v σ3 H3 H4 hj ⟨s3, F3, R3, p3⟩ y
    obtain ⟨e4, ev⟩ := y
    subst e4
    have hd : l.drop j = l[j] :: l.drop (j + 1) := List.drop_eq_getElem_cons hj
    have hv : v = .ref l[j].1 := by
      simp [hj] at ev
      exact ev.symm
    subst hv
    rw [hd] at p3
    have hR2 := R1.gr.fnew
    have R5 := rel_setFn (i := i) (a := l[j].1) R3
    show ∃ p ∈ l, ∃ G, TDS { C1 with F0 := G } p.2 _ (σ3.set i (some (.ref l[j].1))) H4
    refine ⟨l[j], List.getElem_mem hj, F2, { s3 with r := s3.r.set i (.fn l[j].1) }, F3, R5, ?_⟩
    have p4 : PostS C1 E (bnd l[j].2 (fun f => match f with
        | .nx => sFns i (l.drop (j + 1))
        | .ct => sFns i (l.drop (j + 1))
        | .bk => ret .nx
        | .rt d => ret (.rt d)) { s3 with r := s3.r.set i (.fn l[j].1) }) := p3
    unfold bnd at p4
    cases q3 : l[j].2 { s3 with r := s3.r.set i (.fn l[j].1) } with
    | exc n s' =>
      rw [q3] at p4
      exact fun H' F' A g => p4 H' F' A (gr_at g R1.gr.f0 hR2)
    | bad => rw [q3] at p4; exact p4
    | ok f s5 =>
      rw [q3] at p4
      cases f with
      | nx => exact fun σ' H' F' R => ⟨s5, F', R, p4⟩
      | ct => exact fun σ' H' F' R => ⟨s5, F', R, p4⟩
      | bk => exact fun σ' H' F' R => p4 σ' H' F' (rel_at R R1.gr.f0 hR2)
      | rt d => exact fun v H' F' g r => p4 v H' F' (gr_at g R1.gr.f0 hR2) r
  · intro σ3 H3 ⟨s3, F3, R3, p3⟩
    rw [List.drop_length] at p3
    exact p3 σ3 H3 F3 (rel_at R3 R1.gr.f0 R1.gr.fnew)
/-- a call of a local name that holds a def -/
def tCallV (i : Nat) (f : Addr) (sp : Sp) (E : L2.St → XK) (t : TA) : TE := fun σ H Q => σ[i]? = some (some (.ref f)) ∧ t σ H fun vs H1 => sp vs H1 Q (E σ)
theorem pe_callV {CX : CXT} {k i : Nat} {f : Addr} {fd : FuncData} {ps : List Str} {sp : Sp} {E : L2.St → XK} {x : Str} {p pos : Pos} {e : Expr} {es : List Expr} {t : TA} (F : FnOk X.prog X.w X.K X.mg X.base CX k f fd ps sp) (hr : Room k X.A) (hN : X.N[i]? = some x) (hv : Vis X.env.scope x) (hk : PySem.W.keepIn X.K (.ref f) = true) (hb : Binds X.K fd ps []) (hx : ∀ σ, PassesAt CX X σ (E σ))
    (ha : PA X (e :: es) t) (hdb : (x == ("__debug__" : Str)) = false := by decide) (hcd : (x == ("__classdict__" : Str)) = false := by decide) (he : starEach (e :: es) X.env = (false, eval e X.env) :: starEach es X.env := by rfl) (hpl : (backTo pos (starEach es X.env)).any (·.1) = false := by rfl) :
    PE X (.Call (.Name x p) (e :: es) [] pos) (tCallV i f sp E t) := by
  refine ⟨fun pins s σ H Q I h => ?_⟩
  obtain ⟨hs, ht⟩ := h
  refine wpAny_Call_Name_kw (thn ((pe_var (pos := p) hN hv hdb hcd).run pins s σ H (fun v H1 => v = .ref f ∧ H1 = H) I ⟨.ref f, hs, rfl, rfl⟩) fun u s1 ⟨v, H1, I1, r1, q1⟩ => ?_)
  obtain ⟨rfl, rfl⟩ := q1
  cases r1
  refine PySem.W.callWith_K (h₀ := X.base) I.ok.mod.kin hk (thn (ha.run pos pins s1 σ _ _ I1 ht) fun us s2 ⟨vs, H2, I2, r, q⟩ => ⟨I2.kIn, ?_⟩) he hpl
  exact run_fnS F hr hb (hx σ) I2 r q
theorem de_callF {cf : Bool} {n k k' i : Nat} {a : Addr} {den : Dn} {ps : List Str} {x y : Str} {p pos : Pos} {e : Expr} {es : List Expr} {ci : Option Nat} {m : M (List D)}
    (F : OkD X.prog X.w X.K X.mg X.base k y ps (spD X.K X.mg C.T cf n den)) (hy : X.mg y = some (.ref a)) (hr : Room k' X.A) (hk : k ≤ k') (hci : ci.isSome = cf) (hK : C.K = X.K) (hM : C.mg = X.mg) (hN : X.N[i]? = some x) (hv : Vis X.env.scope x) (tk : Tk X C) (hn : ArgN m n)
    (ha : DAk X C (e :: es) ci m) (hdb : (x == ("__debug__" : Str)) = false := by decide) (hcd : (x == ("__classdict__" : Str)) = false := by decide) (he : starEach (e :: es) X.env = (false, eval e X.env) :: starEach es X.env := by rfl) (hpl : (backTo pos (starEach es X.env)).any (·.1) = false := by rfl) :
    DE X C (.Call (.Name x p) (e :: es) [] pos) (eCallF i a ci den m) := fun P G => by
  obtain ⟨f, fd, ok, hm, hk1, hb⟩ := F.ok
  have ef : f = a := by
    have z := hm.symm.trans hy
    cases z
    rfl
  subst ef
  refine PE.imp (pe_callV (i := i) ok (hr.mono hk) hN hv hk1 hb (fun σ => L2N.passAt tk σ) (ha P G) hdb hcd he hpl) fun σ H Q ⟨s, F0, R, h⟩ => ?_
  unfold eCallF at h
  split at h
  · rename_i a' ea
    split at h
    · rename_i za
      subst za
      refine ⟨?_, ?_⟩
      · exact getD_some (R.sl i _ ea)
      · subst hci
        refine tdak_imp (td_args hn R h) fun vs H1 ⟨ds, ws, s1, F1, ev, R1, r1, l1, p1⟩ => ?_
        have g := R1.gr
        refine ⟨C.c, F1, ds, ws, s1.c, ev, l1, by rw [← hK]; exact r1, g.tabs, g.cup, g.fc, g.fsub, g.ftab, ?_⟩
        unfold callD at p1
        rw [← hK, ← hM]
        cases q : den ds s1.c with
        | bad => rw [q] at p1; exact p1.elim
        | ok d k =>
          rw [q] at p1
          exact fun v H' F' g' r' => p1 v H' F' (rel_call R1 g') g'.f0 r'
        | exc nm k =>
          rw [q] at p1
          exact fun H' F' A g' hA => p1 H' F' A (gr_call (s := s1) g g') hA
    · exact h.elim
  · exact h.elim
end
/-! ### is True, is False, of bools -/
def isBD : D → D → Option D
  | .bool b, .bool c => some (.bool (b == c))
  | _, _ => none
def nisBD : D → D → Option D
  | .bool b, .bool c => some (.bool (b != c))
  | _, _ => none
section
variable {X : Cx} {C : Ct}
theorem op_isBD : OpR X (compareOp .Is) (R2ok C isBD) := by
  intro pins s σ H x y v u Q I rx ry h
  obtain ⟨σ', s', F, d, e, r, R, dx, dy, er, wr⟩ := h
  cases dx <;> cases dy <;> simp only [isBD] at er <;> try (cases er; done)
  cases er
  cases rx
  cases ry
  exact is_bool ⟨.bl _, H, I, rfl, wn_bl R wr⟩
theorem op_nisBD : OpR X (compareOp .IsNot) (R2ok C nisBD) := by
  intro pins s σ H x y v u Q I rx ry h
  obtain ⟨σ', s', F, d, e, r, R, dx, dy, er, wr⟩ := h
  cases dx <;> cases dy <;> simp only [nisBD] at er <;> try (cases er; done)
  cases er
  cases rx
  cases ry
  exact isnot_bool ⟨.bl _, H, I, rfl, wn_bl R wr⟩
end
/-! ### a or b, by truth -/
def truD : D → Option Bool
  | .none => some false
  | .bool b => some b
  | .int i => some (i != 0)
  | .tuple ds => some (!ds.isEmpty)
  | .list ds => some (!ds.isEmpty)
  | _ => none
def eOrT (ma mb : M D) : M D := bnd ma fun d => match truD d with
  | some true => ret d
  | some false => mb
  | none => bad
section
variable {X : Cx} {C : Ct}
theorem empty_rp {K : PySem.W.Frag} {F : Hp} {ds : List D} {vs : List V} (h : RpAll K F vs ds) : (!ds.isEmpty) = !vs.isEmpty := by
  cases h <;> rfl
theorem de_orT {a b : Expr} {r : List Expr} {ma mb : M D} {pos : Pos} (hK : C.K = X.K) (ha : DE X C a ma) (hb : DE X C (.BoolOp .Or (b :: r) pos) mb) : DE X C (.BoolOp .Or (a :: b :: r) pos) (eOrT ma mb) := fun P G => by
  refine PE.imp (pe_orT (ha P G) (hb P G)) fun σ H Q h => ?_
  obtain ⟨s, F, R, h⟩ := h
  refine td_imp (td_bnd R h) fun v H2 ⟨d, s2, F2, R2, e2, dp2, p2⟩ => ?_
  replace hK : C.K = X.K := hK
  cases q : truD d with
  | none => rw [q] at p2; exact p2.elim
  | some k =>
    rw [q] at p2
    refine ⟨k, ?_, ?_⟩
    · cases dp2 with
      | non => exact (Option.some.inj q).symm
      | bl b => exact (Option.some.inj q).symm
      | int i => exact (Option.some.inj q).symm
      | str x => cases q
      | lst h1 h2 =>
        refine .inl ⟨_, ?_, (Option.some.inj q).symm.trans (empty_rp h2)⟩
        rw [← hK]
        exact SqL.of (R2.gr.fsub _ _ h1)
      | tup h1 h2 =>
        refine .inr (.inl ⟨_, ?_, (Option.some.inj q).symm.trans (empty_rp h2)⟩)
        rw [← hK]
        exact SqT.of (R2.gr.fsub _ _ h1)
    · cases k with
      | true => exact p2 v H2 F2 R2 (sub_refl F2) dp2
      | false => exact ⟨s2, F2, R2, p2⟩
end
end PL
set_option maxHeartbeats 2000000
/-! ### reversed over a tuple or a list -/
namespace PL
open PySem PySem.Spec PyProof.Rows L2 LamX RT
def revIt : D → M (List D)
  | .list ds => ret ds.reverse
  | .tuple ds => ret ds.reverse
  | _ => bad
section
variable {X : Cx} {C : Ct}
theorem walk_revL {K : PySem.W.Frag} {a : Addr} {xs : List V} : Walk (Itv K a xs.length) xs.length (fun H => SqL K H a xs) (fun i H v H' => H' = H ∧ xs[xs.length - 1 - i]? = some v) :=
  ⟨fun i H hi q => ⟨hi, xs, xs[xs.length - 1 - i], q, List.getElem?_eq_getElem (by omega)⟩, fun H q => Nat.le_refl _, fun i H v H' hi q y => ⟨y.1, y.2 xs q⟩⟩
theorem walk_revT {K : PySem.W.Frag} {a : Addr} {xs : List V} : Walk (ItvT K a xs.length) xs.length (fun H => SqT K H a xs) (fun i H v H' => H' = H ∧ xs[xs.length - 1 - i]? = some v) :=
  ⟨fun i H hi q => ⟨hi, xs, xs[xs.length - 1 - i], q, List.getElem?_eq_getElem (by omega)⟩, fun H q => Nat.le_refl _, fun i H v H' hi q y => ⟨y.1, y.2 xs q⟩⟩
theorem rev_get {K : PySem.W.Frag} {F2 : Hp} {ds : List D} {vs : List V} {i : Nat} {x : V} (ax : RpAll K F2 vs ds) (hi : i < ds.reverse.length) (hx : vs[vs.length - 1 - i]? = some x) : ∃ d, ds.reverse[i]? = some d ∧ Rp K F2 x d := by
  obtain ⟨d, e, q⟩ := dps_get' ax hx
  refine ⟨d, ?_, q⟩
  rw [List.length_reverse] at hi
  rw [List.getElem?_reverse hi, ← dps_len ax]
  exact e
theorem di_rev {tg e : Expr} {m : M D} {p pos : Pos} (hK : C.K = X.K) (hg : Gl X "reversed") (hm : X.mg "reversed" = none) (he : DE X C e m) (hs : starEach [e] X.env = (false, eval e X.env) :: starEach [] X.env := by rfl) : DI X C tg (.Call (.Name "reversed" p) [e] [] pos) (bnd m revIt) := fun P G => by
  refine ⟨fun pins s σ H R I h => ?_⟩
  obtain ⟨s0, F0, R0, h0⟩ := id h
  replace hK : C.K = X.K := hK
  refine (pi_revA (tg := tg) hg hm (he P G) hs).run pins s σ H R I ⟨s0, F0, R0, ?_⟩
  cases q : m s0 with
  | exc n s' =>
    unfold bnd at h0
    rw [q] at h0
    exact h0
  | bad =>
    unfold bnd at h0
    rw [q] at h0
    exact h0.elim
  | ok d s' =>
    have h1 : PostI { C with P := P, F0 := G } σ F0 (revIt d s') R := by
      unfold bnd at h0
      rw [q] at h0
      exact h0
    intro v H' F' R' e r
    cases d with
    | list ds =>
      cases r with
      | @lst a vs ds sx ax =>
        have w : Walk (Itv C.K a vs.length) ds.reverse.length (fun H => SqL C.K H a vs) (fun i H v H' => H' = H ∧ vs[vs.length - 1 - i]? = some v) := by
          rw [List.length_reverse, ← dps_len ax]
          exact walk_revL
        refine ⟨a, vs, rfl, .inl ⟨SqL.of (R'.gr.fsub _ _ sx), ?_⟩⟩
        rw [← hK]
        refine h1 _ H' F' R' e ⟨_, _, w, fun H2 F2 e1 e2 => SqL.of (e2 _ _ (e1 _ _ sx)), fun i H2 x H3 F2 hi e1 e2 y => ?_⟩
        obtain ⟨d, e, q⟩ := rev_get (dps_sub e1 ax) hi y.2
        exact ⟨d, e, .inl ⟨y.1, q⟩⟩
    | tuple ds =>
      cases r with
      | @tup a vs ds sx ax =>
        have w : Walk (ItvT C.K a vs.length) ds.reverse.length (fun H => SqT C.K H a vs) (fun i H v H' => H' = H ∧ vs[vs.length - 1 - i]? = some v) := by
          rw [List.length_reverse, ← dps_len ax]
          exact walk_revT
        refine ⟨a, vs, rfl, .inr ⟨by rw [← hK]; exact SqT.of (R'.gr.fsub _ _ sx), ?_⟩⟩
        rw [← hK]
        refine h1 _ H' F' R' e ⟨_, _, w, fun H2 F2 e1 e2 => sqT_sub e2 (sqT_sub e1 (SqT.of sx)), fun i H2 x H3 F2 hi e1 e2 y => ?_⟩
        obtain ⟨d, e, q⟩ := rev_get (dps_sub e1 ax) hi y.2
        exact ⟨d, e, .inl ⟨y.1, q⟩⟩
    | _ => exact h1.elim
/-- a tuple of what is looked at: the list stays an own one -/
theorem de_ptup {i : Nat} {x n : Str} {p p2 pos : Pos} (hK : C.K = X.K) (hg : Gl X n) (hm : X.mg n = none) (hvb : bootBuiltins n = some (.type "tuple")) (hN : X.N[i]? = some x) (hv : Vis X.env.scope x) (hn : n ≠ "__name__" := by decide) (hdb : (n == ("__debug__" : Str)) = false := by decide)
    (hd : (x == ("__debug__" : Str)) = false := by decide) (hcd : (x == ("__classdict__" : Str)) = false := by decide) (he : starEach [.Name x p2] X.env = (false, eval (.Name x p2) X.env) :: starEach [] X.env := by rfl) (hpl : (backTo pos (starEach [] X.env)).any (·.1) = false := by rfl) :
    DE X C (.Call (.Name n p) [.Name x p2] [] pos) (pkF i (ret ()) fun d _ => tupOfD [d]) := fun P G => by
  refine PE.imp (pe_callTy call_tuple_of hg hm hvb (pa_cons (pe_var hN hv hd hcd) pa_nil he) hn hdb he hpl) fun σ H Q h => ?_
  obtain ⟨v, ev, s, F, R, t⟩ := td_pkF (rep := same) h
  refine ⟨v, ev, ?_⟩
  obtain ⟨d, e, r, s4, F4, R4, pk, ea, er, wr⟩ := t () H F R (sub_refl F) rfl
  replace hK : C.K = X.K := hK
  obtain ⟨q1, q2⟩ := pk_seq R4 pk
  cases d with
  | list ds =>
    obtain ⟨a, vs, rfl, g1, g3⟩ := q1 _ rfl
    simp only [tupOfD] at er
    cases er
    exact ⟨a, vs, rfl, .inl ⟨SqL.of g1, wn_tup R4 wr g3⟩⟩
  | tuple ds =>
    obtain ⟨a, vs, rfl, g1, g2, g3⟩ := q2 _ rfl
    simp only [tupOfD] at er
    cases er
    exact ⟨a, vs, rfl, .inr ⟨SqT.of g1, wr _ _ _ R4 (sub_refl F4) (.tup g2 g3)⟩⟩
  | _ => simp only [tupOfD] at er; cases er
end
end PL
set_option maxHeartbeats 2000000
/-! ### what the laws share: draws, likeness, bent values, whole numbers -/
namespace LL
open PySem PySem.Spec PL
abbrev N__law_roll : List Str := ["cup", "many", "found", "deep"]
def m__law_roll : M Fl := (sq (sIf (tV (e2 gtD (eCup 0 false) (eC (.int 0)))) (sq (sSet 2 (e2 modD (eA intD (aCons (eCup 0 false) aNil)) (eVar 1))) (sq (sCup 0 false (e2 fdivD (eCup 0 false) (eVar 1))) (sRet (eVar 2)))) (ret .nx)) (sq (sCup 0 true (e2 modD (eA intD (aCons (e2 addD (e2 mulD (eCup 0 true) (eC (.int 30269))) (eC (.int 9173))) aNil)) (eC (.int 2147483579)))) (sq (sSet 3 (e2 modD (eA intD (aCons (e2 mulD (eCup 0 true) (e2 addD (eCup 0 true) (eC (.int 307)))) aNil)) (eC (.int 2147483563)))) (sRet (e2 modD (eA intD (aCons (e2 fdivD (eVar 3) (eC (.int 887))) aNil)) (eVar 1))))))
def D__law_roll : Dn := denOf N__law_roll.length true m__law_roll
abbrev N__law_some : List Str := ["cup", "things"]
def m__law_some : M Fl := (sRet (pkF 1 (eCall (some 0) D__law_roll (aCons (pkF 1 (ret ()) fun d _ => lenD [d]) aNil)) idxD))
def D__law_some : Dn := denOf N__law_some.length true m__law_some
abbrev N__law_sort : List Str := ["value"]
def m__law_sort : M Fl := (sq (sIf (tOr (tV (e1 isN (eVar 0))) (tV (eIsi isBoolD (eVar 0)))) (sRet (eIf (tV (e1 isN (eVar 0))) (eC (.int 0)) (eC (.int 1)))) (ret .nx)) (sq (sIf (tOr (tV (eIsi isIntD (eVar 0))) (tV (eIsi isStrD (eVar 0)))) (sRet (eIf (tV (eIsi isIntD (eVar 0))) (eC (.int 2)) (eC (.int 3)))) (ret .nx)) (sRet (eIf (tV (eIsi isTupD (eVar 0))) (eC (.int 4)) (eIf (tV (eIsi isLstD (eVar 0))) (eC (.int 5)) (eC (.int 6)))))))
def D__law_sort : Dn := denOf N__law_sort.length false m__law_sort
abbrev N__law_like : List Str := ["one", "other", "sort", "first", "second"]
def m__law_like (L : Dn) : M Fl := (sq (sSet 2 (eCall none D__law_sort (aCons (eVar 1) aNil))) (sq (sIf (tOr (tV (e2 neD (eCall none D__law_sort (aCons (eVar 0) aNil)) (eVar 2))) (tV (e2 eqD (eVar 2) (eC (.int 6))))) (sRet (eC (.bool false))) (ret .nx)) (sq (sIf (tV (e2 inD (eVar 2) (eA tupD (aCons (eC (.int 4)) (aCons (eC (.int 5)) aNil))))) (sRet (eAnd (e2 eqD (pkF 0 (ret ()) fun d _ => lenD [d]) (pkF 1 (ret ()) fun d _ => lenD [d])) (e2 eqD (frz (eLc (bnd (aCons (eVar 0) (aCons (eVar 1) aNil)) zipD) (gTn 2 (gsCons (gN 3) (gsCons (gN 4) gsNil))) (tNot (tV (eCall none L (aCons (eVar 3) (aCons (eVar 4) aNil))))) (eC (.int 1)) [3, 4])) (eA lstD aNil)))) (ret .nx)) (sRet (e2 eqD (eVar 0) (eVar 1))))))
def L__law_like : Nat → Dn
  | 0 => fun _ _ => .bad
  | n + 1 => denOf N__law_like.length false (m__law_like (L__law_like n))
abbrev D__law_like : Dn := L__law_like 8
abbrev N__law_bent : List Str := ["cup", "value", "some", "at", "way"]
def m__law_bent (L : Dn) : M Fl := (sq (sIf (tOr (tNot (tV (eIsi isTupD (eVar 1)))) (tOr (tV (e2 eqD (eVar 1) (eA tupD aNil))) (tV (e2 eqD (eCall (some 0) D__law_roll (aCons (eC (.int 6)) aNil)) (eC (.int 0)))))) (sq (sSet 2 (eA lstD (aCons (eC .none) (aCons (eC (.bool true)) (aCons (eC (.bool false)) (aCons (eC (.int 0)) (aCons (eC (.int 1)) (aCons (e1 negD (eC (.int 1))) (aCons (eC (.int 2)) (aCons (eC (.int 9)) (aCons (eC (.str "")) (aCons (eA tupD aNil) (aCons (eA lstD aNil) (aCons (eA tupD (aCons (eC (.int 0)) aNil)) (aCons (eA tupD (aCons (eC (.int 0)) (aCons (eC (.int 0)) aNil))) (aCons (eA tupD (aCons (eC (.int 1)) (aCons (eC (.int 1)) aNil))) (aCons (eA tupD (aCons (eC (.int 0)) (aCons (eC (.int 1)) aNil))) aNil))))))))))))))))) (sRet (eCall (some 0) D__law_some (aCons (e2 addD (eVar 2) (eIf (tV (e2 eqD (eCall none D__law_sort (aCons (eVar 1) aNil)) (eC (.int 2)))) (e2 mulD (eA lstD (aCons (e2 addD (eVar 1) (eC (.int 1))) (aCons (e2 subD (eVar 1) (eC (.int 1))) aNil))) (eC (.int 4))) (eA lstD aNil))) aNil)))) (ret .nx)) (sq (sPar [3, 4] (oVal (eCall (some 0) D__law_roll (aCons (pkF 1 (ret ()) fun d _ => lenD [d]) aNil)) (oVal (eCall (some 0) D__law_roll (aCons (eC (.int 10)) aNil)) oNil))) (sq (sIf (tV (e2 ltD (eVar 4) (eC (.int 2)))) (sRet (e2 addD (e2 addD (pkF 1 (two (ret none) (bnd (eVar 3) asI)) fun d y => sliD y.1 y.2 d) (pkF 1 (two (bnd (e2 addD (eVar 3) (eVar 4)) asI) (ret none)) fun d y => sliD y.1 y.2 d)) (eIf (tV (e2 eqD (eVar 4) (eC (.int 0)))) (pkF 1 (two (bnd (eVar 3) asI) (bnd (e2 addD (eVar 3) (eC (.int 1))) asI)) fun d y => sliD y.1 y.2 d) (eA tupD aNil)))) (ret .nx)) (sq (sIf (tV (e2 eqD (eVar 4) (eC (.int 2)))) (sRet (eA lstOfD (aCons (eVar 1) aNil))) (ret .nx)) (sq (sIf (tV (e2 eqD (eVar 4) (eC (.int 3)))) (sRet (e1 revD (eVar 1))) (ret .nx)) (sRet (e2 addD (e2 addD (pkF 1 (two (ret none) (bnd (eVar 3) asI)) fun d y => sliD y.1 y.2 d) (eA tupD (aCons (eCall (some 0) L (aCons (pkF 1 (eVar 3) idxD) aNil)) aNil))) (pkF 1 (two (bnd (e2 addD (eVar 3) (eC (.int 1))) asI) (ret none)) fun d y => sliD y.1 y.2 d))))))))
def L__law_bent : Nat → Dn
  | 0 => fun _ _ => .bad
  | n + 1 => denOf N__law_bent.length true (m__law_bent (L__law_bent n))
abbrev D__law_bent : Dn := L__law_bent 8
abbrev N_is_tuple_of : List Str := ["value", "low", "high"]
def m_is_tuple_of : M Fl := (sRet (eAnd (eIsi isTupD (eVar 0)) (eChain leD leD (eVar 1) (pkF 0 (ret ()) fun d _ => lenD [d]) (eVar 2))))
def D_is_tuple_of : Dn := denOf N_is_tuple_of.length false m_is_tuple_of
abbrev N_is_whole : List Str := ["value", "low", "high"]
def m_is_whole : M Fl := (sRet (eAnd (eIsi isIntD (eVar 0)) (eAnd (eNot (eIsi isBoolD (eVar 0))) (eChain leD leD (eVar 1) (eVar 0) (eVar 2)))))
def D_is_whole : Dn := denOf N_is_whole.length false m_is_whole
abbrev N_are_wholes : List Str := ["value", "many", "low", "high", "one"]
def m_are_wholes : M Fl := (sRet (eAnd (eCall none D_is_tuple_of (aCons (eVar 0) (aCons (eVar 1) (aCons (eVar 1) aNil)))) (eA allD (aCons (frz (eLc (bnd (eVar 0) itD) (gN 4) (ret true) (eCall none D_is_whole (aCons (eVar 4) (aCons (eVar 2) (aCons (eVar 3) aNil)))) [4])) aNil))))
def D_are_wholes : Dn := denOf N_are_wholes.length false m_are_wholes
abbrev N__law_whole : List Str := ["value", "low", "high"]
def m__law_whole : M Fl := (sRet (eAnd (e2 eqD (eCall none D__law_sort (aCons (eVar 0) aNil)) (eC (.int 2))) (eChain leD leD (eVar 1) (eVar 0) (eVar 2))))
def D__law_whole : Dn := denOf N__law_whole.length false m__law_whole
abbrev N__law_wholes : List Str := ["value", "many", "low", "high", "one"]
def m__law_wholes : M Fl := (sRet (eAnd (e2 eqD (eCall none D__law_sort (aCons (eVar 0) aNil)) (eC (.int 4))) (eAnd (e2 eqD (pkF 0 (ret ()) fun d _ => lenD [d]) (eVar 1)) (e2 eqD (frz (eLc (bnd (eVar 0) itD) (gN 4) (tNot (tV (eCall none D__law_whole (aCons (eVar 4) (aCons (eVar 2) (aCons (eVar 3) aNil)))))) (eC (.int 1)) [4])) (eA lstD aNil)))))
def D__law_wholes : Dn := denOf N__law_wholes.length false m__law_wholes
theorem log_small {n : Int} (h0 : 0 < n) (h1 : n ≤ 2 ^ 62) : n.natAbs.log2 < 9000 := by
  have h : n.natAbs < 2 ^ 9000 := by
    have : n.natAbs ≤ 2 ^ 62 := by omega
    exact Nat.lt_of_le_of_lt this (Nat.pow_lt_pow_right (by decide) (by decide))
  exact (Nat.log2_lt (by omega)).mpr h
theorem roll {k : Int × Int} (h : CupOk k) {n : Int} (h0 : 0 < n) (h1 : n ≤ 2 ^ 62) : ∃ r k', D__law_roll [.int n] k = .ok (.int r) k' ∧ 0 ≤ r ∧ r < n ∧ CupOk k' := by
  obtain ⟨a, b⟩ := k
  obtain ⟨ha, hb, hb2⟩ := h
  dsimp only at ha hb hb2
  by_cases hc : 0 < a
  · refine ⟨a % n, (a / n, b), ?_, Int.emod_nonneg _ (by omega), Int.emod_lt_of_pos _ h0, Int.ediv_nonneg ha (by omega), hb, hb2⟩
    simp [D__law_roll, m__law_roll, sq, sSet, sRet, sIf, sExp, sCup, sPar, sAsg, put, bnd, PL.ret, PL.bad, PL.exc, eA, aCons, aNil, eC, opt, e1, e2, tV, tNot, tAnd, tOr, asB, eVar, eCup, hasC, eAnd, eOr, eNot, eIf, eIsi, eChain, eCall, eCall0, hasCup, callD, denOf, initS, addD, subD, mulD, fdivD, modD, powD, negD, ltD, leD, gtD, geD, PL.intD, absD, lenD, max2D, isIntD, isBoolD, isTupD, isStrD, isLstD, isN, notN, pkF, peek, oNil, oVal, oOwn, setAll, slOf, w64, asI, two, gN, gTn, gsCons, gsNil, tupD, lstD, lim, hc, h0, log_small h0 h1]
  · have hm1 := Int.emod_nonneg (b * 30269 + 9173) (b := 2147483579) (by decide)
    have hm2 := Int.emod_lt_of_pos (b * 30269 + 9173) (b := 2147483579) (by decide)
    obtain ⟨c, ec⟩ : ∃ c, (b * 30269 + 9173) % 2147483579 = c := ⟨_, rfl⟩
    rw [ec] at hm1 hm2
    refine ⟨(c * (c + 307) % 2147483563 / 887) % n, (a, c), ?_, Int.emod_nonneg _ (by omega), Int.emod_lt_of_pos _ h0, ha, hm1, by show c < (2 : Int) ^ 40; omega⟩
    have w1 : -18446744073709551616 < b := by omega
    have w2 : b < 18446744073709551616 := by omega
    have w3 : -18446744073709551616 < c := by omega
    have w4 : c < 18446744073709551616 := by omega
    have l : Nat.log2 887 < 9000 := log_small (n := 887) (by decide) (by decide)
    simp [D__law_roll, m__law_roll, sq, sSet, sRet, sIf, sExp, sCup, sPar, sAsg, put, bnd, PL.ret, PL.bad, PL.exc, eA, aCons, aNil, eC, opt, e1, e2, tV, tNot, tAnd, tOr, asB, eVar, eCup, hasC, eAnd, eOr, eNot, eIf, eIsi, eChain, eCall, eCall0, hasCup, callD, denOf, initS, addD, subD, mulD, fdivD, modD, powD, negD, ltD, leD, gtD, geD, PL.intD, absD, lenD, max2D, isIntD, isBoolD, isTupD, isStrD, isLstD, isN, notN, pkF, peek, oNil, oVal, oOwn, setAll, slOf, w64, asI, two, gN, gTn, gsCons, gsNil, tupD, lstD, lim, hc, h0, ec, w1, w2, w3, w4, l]
theorem some_ {k : Int × Int} (h : CupOk k) {xs : List D} (h0 : xs ≠ []) (h1 : xs.length ≤ 1000) : ∃ x k', D__law_some [.list xs] k = .ok x k' ∧ x ∈ xs ∧ CupOk k' := by
  have hp : 0 < xs.length := List.length_pos_iff.mpr h0
  obtain ⟨r, k', e, r0, r1, hk⟩ := roll h (n := (xs.length : Int)) (by omega) (by omega)
  have hr : r.toNat < xs.length := by omega
  refine ⟨xs[r.toNat], k', ?_, List.getElem_mem _, hk⟩
  have hi : L2.atI xs r = some xs[r.toNat] := by
    unfold L2.atI L2.ixN
    rw [if_pos r0]
    simp [r1, hr]
  simp [D__law_some, m__law_some, sq, sSet, sRet, sIf, sExp, sCup, sPar, sAsg, put, bnd, PL.ret, PL.bad, PL.exc, eA, aCons, aNil, eC, opt, e1, e2, tV, tNot, tAnd, tOr, asB, eVar, eCup, hasC, eAnd, eOr, eNot, eIf, eIsi, eChain, eCall, eCall0, hasCup, callD, denOf, initS, addD, subD, mulD, fdivD, modD, powD, negD, ltD, leD, gtD, geD, PL.intD, absD, lenD, max2D, isIntD, isBoolD, isTupD, isStrD, isLstD, isN, notN, pkF, peek, oNil, oVal, oOwn, setAll, slOf, w64, asI, two, gN, gTn, gsCons, gsNil, tupD, lstD, lim, e, idxD, hi]
def sortI : D → Int
  | .none => 0
  | .bool _ => 1
  | .int _ => 2
  | .str _ => 3
  | .tuple _ => 4
  | .list _ => 5
  | .dict _ => 6
theorem sort (d : D) (k : Int × Int) : D__law_sort [d] k = .ok (.int (sortI d)) k := by
  cases d <;> rfl
theorem ne_int (i j : Int) : neD (.int i) (.int j) = some (.bool (!decide (i = j))) := by
  show some (PyData.bool (!PyData.eqv (.int i) (.int j))) = _
  unfold PyData.eqv
  congr 2
abbrev ls (d e : D) (v : Sl) (k : Int × Int) : S := ⟨[.val d, .val e, v, .un, .un], k⟩
/-- of one kind, no dicts: what is left of the text -/
theorem like_head (L : Dn) (d e : D) (k : Int × Int) (h : sortI d = sortI e) (h6 : sortI e ≠ 6) {r : Fl} {s1 : S} (rest : sq (sIf (tV (e2 inD (eVar 2) (eA tupD (aCons (eC (.int 4)) (aCons (eC (.int 5)) aNil))))) (sRet (eAnd (e2 eqD (pkF 0 (ret ()) fun d _ => lenD [d]) (pkF 1 (ret ()) fun d _ => lenD [d])) (e2 eqD (frz (eLc (bnd (aCons (eVar 0) (aCons (eVar 1) aNil)) zipD) (gTn 2 (gsCons (gN 3) (gsCons (gN 4) gsNil))) (tNot (tV (eCall none L (aCons (eVar 3) (aCons (eVar 4) aNil))))) (eC (.int 1)) [3, 4])) (eA lstD aNil)))) (ret .nx)) (sRet (e2 eqD (eVar 0) (eVar 1))) (ls d e (.val (.int (sortI e))) k) = .ok r s1) :
    m__law_like L (ls d e .un k) = .ok r s1 := by
  have h1 : eCall none D__law_sort (aCons (eVar 1) aNil) (ls d e .un k) = .ok (.int (sortI e)) (ls d e .un k) := eCall_eq (k := k) (aCons_eq rfl rfl) (sort e k)
  have h2 : eCall none D__law_sort (aCons (eVar 0) aNil) (ls d e (.val (.int (sortI e))) k) = .ok (.int (sortI d)) (ls d e (.val (.int (sortI e))) k) := eCall_eq (k := k) (aCons_eq rfl rfl) (sort d k)
  have h3 : tV (e2 neD (eCall none D__law_sort (aCons (eVar 0) aNil)) (eVar 2)) (ls d e (.val (.int (sortI e))) k) = .ok false (ls d e (.val (.int (sortI e))) k) := by
    refine tV_eq (e2_eq h2 (y := .int (sortI e)) rfl ?_)
    rw [ne_int, decide_eq_true h]
    rfl
  have h4 : tV (e2 eqD (eVar 2) (eC (.int 6))) (ls d e (.val (.int (sortI e))) k) = .ok false (ls d e (.val (.int (sortI e))) k) := by
    refine tV_eq (e2_eq (x := .int (sortI e)) (y := .int 6) rfl rfl ?_)
    rw [eq_int, decide_eq_false h6]
  exact sq_nx (sSet_eq (i := 2) h1) (sq_nx ((sIf_f ((tOr_f h3).trans h4)).trans rfl) rest)
theorem like_bool (n : Nat) (p q : Bool) (k : Int × Int) : L__law_like (n + 1) [.bool p, .bool q] k = .ok (.bool (decide (p = q))) k := by
  have e : eqD (.bool p) (.bool q) = some (.bool (decide (p = q))) := by cases p <;> cases q <;> rfl
  exact den_rt (k := k) (like_head (L__law_like n) (.bool p) (.bool q) k rfl (by show (1 : Int) ≠ 6; decide) (sq_nx rfl (sRet_eq (e2_eq (x := .bool p) (y := .bool q) rfl rfl e))))
theorem like_int (n : Nat) (i : Int) (k : Int × Int) : L__law_like (n + 1) [.int i, .int i] k = .ok (.bool true) k := by
  have e : eqD (.int i) (.int i) = some (.bool true) := by rw [eq_int, decide_eq_true rfl]
  exact den_rt (k := k) (like_head (L__law_like n) (.int i) (.int i) k rfl (by show (2 : Int) ≠ 6; decide) (sq_nx rfl (sRet_eq (e2_eq (x := .int i) (y := .int i) rfl rfl e))))
theorem pairs_same : ∀ (ds : List D), ∀ y ∈ pairs ds ds, ∃ e ∈ ds, y = .tuple [e, e]
  | [], y, h => by cases h
  | d :: ds, y, h => by
    rcases List.mem_cons.mp h with rfl | h
    · exact ⟨d, List.mem_cons_self, rfl⟩
    · obtain ⟨e, he, ey⟩ := pairs_same ds y h
      exact ⟨e, List.mem_cons_of_mem _ he, ey⟩
theorem pairs_len : ∀ (ds : List D), (pairs ds ds).length = ds.length
  | [] => rfl
  | d :: ds => by show (pairs ds ds).length + 1 = _; rw [pairs_len ds]; rfl
theorem like_rest (L : Dn) (s0 d : D) (ds : List D) (v : Sl) (k : Int × Int) (hd : d = .list ds ∨ d = .tuple ds) (hl : ds.length ≤ lim) (h : ∀ e ∈ ds, L [e, e] k = .ok (.bool true) k) :
    eAnd (e2 eqD (pkF 0 (ret ()) fun d _ => lenD [d]) (pkF 1 (ret ()) fun d _ => lenD [d])) (e2 eqD (frz (eLc (bnd (aCons (eVar 0) (aCons (eVar 1) aNil)) zipD) (gTn 2 (gsCons (gN 3) (gsCons (gN 4) gsNil))) (tNot (tV (eCall none L (aCons (eVar 3) (aCons (eVar 4) aNil))))) (eC (.int 1)) [3, 4])) (eA lstD aNil)) (ls d d v k) = .ok (.bool true) (ls d d v k) := by
  have hlen : lenD [d] = some (.int ds.length) := by rcases hd with rfl | rfl <;> rfl
  have hz : bnd (aCons (eVar 0) (aCons (eVar 1) aNil)) zipD (ls d d v k) = .ok (pairs ds ds) (ls d d v k) := by rcases hd with rfl | rfl <;> rfl
  have q1 : eLc (bnd (aCons (eVar 0) (aCons (eVar 1) aNil)) zipD) (gTn 2 (gsCons (gN 3) (gsCons (gN 4) gsNil))) (tNot (tV (eCall none L (aCons (eVar 3) (aCons (eVar 4) aNil))))) (eC (.int 1)) [3, 4] (ls d d v k) = .ok [] (ls d d v k) := by
    have z := eLc_filter (asg := gTn 2 (gsCons (gN 3) (gsCons (gN 4) gsNil))) (tst := tNot (tV (eCall none L (aCons (eVar 3) (aCons (eVar 4) aNil))))) (elt := eC (.int 1)) (vs := [3, 4]) (p := fun _ => false) (f := id) (r0 := (ls d d v k).r) (r2 := (ls d d v k).r) hz (by rw [pairs_len]; exact hl) rfl rfl fun y hy => by
      obtain ⟨e, he, rfl⟩ := pairs_same ds y hy
      have h1 : eCall none L (aCons (eVar 3) (aCons (eVar 4) aNil)) ⟨[.val d, .val d, v, .val e, .val e], k⟩ = .ok (.bool true) ⟨[.val d, .val d, v, .val e, .val e], k⟩ := eCall_eq (k := k) (aCons_eq rfl (aCons_eq rfl rfl)) (h e he)
      have h2 := tNot_eq (tV_eq h1)
      exact ⟨[.val d, .val d, v, .val e, .val e], asg_eq (s1 := ⟨[.val d, .val d, v, .val e, .val e], k⟩) rfl h2, rfl⟩
    rw [List.filter_eq_nil_iff.mpr (by simp)] at z
    exact z
  have h1 : e2 eqD (pkF 0 (ret ()) fun d _ => lenD [d]) (pkF 1 (ret ()) fun d _ => lenD [d]) (ls d d v k) = .ok (.bool true) (ls d d v k) := e2_eq (pkF_eq (a := ()) rfl rfl rfl hlen) (pkF_eq (a := ()) rfl rfl rfl hlen) (by rw [eq_int, decide_eq_true rfl])
  exact (eAnd_t h1).trans (e2_eq (x := .list []) (y := .list []) (frz_eq q1) rfl rfl)
theorem like_tup (n : Nat) (ds : List D) (k : Int × Int) (hl : ds.length ≤ lim) (h : ∀ e ∈ ds, L__law_like n [e, e] k = .ok (.bool true) k) : L__law_like (n + 1) [.tuple ds, .tuple ds] k = .ok (.bool true) k :=
  den_rt (k := k) (like_head (L__law_like n) (.tuple ds) (.tuple ds) k rfl (by show (4 : Int) ≠ 6; decide) (sq_rt ((sIf_t (s1 := ls (.tuple ds) (.tuple ds) (.val (.int 4)) k) rfl).trans (sRet_eq (like_rest (L__law_like n) .none (.tuple ds) ds (.val (.int 4)) k (.inr rfl) hl h)))))
theorem like_lst (n : Nat) (ds : List D) (k : Int × Int) (hl : ds.length ≤ lim) (h : ∀ e ∈ ds, L__law_like n [e, e] k = .ok (.bool true) k) : L__law_like (n + 1) [.list ds, .list ds] k = .ok (.bool true) k :=
  den_rt (k := k) (like_head (L__law_like n) (.list ds) (.list ds) k rfl (by show (5 : Int) ≠ 6; decide) (sq_rt ((sIf_t (s1 := ls (.list ds) (.list ds) (.val (.int 5)) k) rfl).trans (sRet_eq (like_rest (L__law_like n) .none (.list ds) ds (.val (.int 5)) k (.inl rfl) hl h)))))
theorem like_zs (n : Nat) (l : List Int) (k : Int × Int) (hl : l.length ≤ lim) : L__law_like (n + 2) [.tuple (zs l), .tuple (zs l)] k = .ok (.bool true) k :=
  like_tup (n + 1) (zs l) k (by rw [zs_len]; exact hl) fun e he => by
    obtain ⟨i, _, rfl⟩ := List.mem_map.mp he
    exact like_int n i k

theorem asInts_zs : ∀ l : List Int, asInts (zs l) = some l
  | [] => rfl
  | n :: l => by
    show asInts (.int n :: zs l) = _
    unfold asInts
    rw [asInts_zs l]
    rfl
theorem at_pos {l : List D} {i : Nat} {d : D} (h : l[i]? = some d) : L2.atI l (i : Int) = some d := by
  have hi := (List.getElem?_eq_some_iff.mp h).1
  unfold L2.atI L2.ixN
  rw [if_pos (by omega), if_pos (by omega)]
  simp [h]
/-! ### whole numbers -/
def wh (lo hi : Int) : D → Bool
  | .int v => decide (lo ≤ v) && decide (v ≤ hi)
  | _ => false
def whs (n : Int) (lo hi : Int) : D → Bool
  | .tuple l => decide ((l.length : Int) = n) && l.all (wh lo hi)
  | _ => false
/-- short enough to be gone through -/
def Sm (d : D) : Prop := ∀ l, d = .tuple l → l.length ≤ 1000
theorem whs_zs {n lo hi : Int} {d : D} (h : whs n lo hi d = true) : ∃ p : List Int, d = .tuple (zs p) ∧ (p.length : Int) = n ∧ ∀ v ∈ p, lo ≤ v ∧ v ≤ hi := by
  unfold whs at h
  split at h
  · rename_i l
    rw [Bool.and_eq_true, decide_eq_true_eq, List.all_eq_true] at h
    obtain ⟨h1, h2⟩ := h
    have z : ∀ l : List D, (∀ x ∈ l, wh lo hi x = true) → ∃ p : List Int, l = zs p ∧ ∀ v ∈ p, lo ≤ v ∧ v ≤ hi := by
      intro l
      induction l with
      | nil => exact fun _ => ⟨[], rfl, fun v hv => absurd hv (by simp)⟩
      | cons x l ih =>
        intro hx
        obtain ⟨p, rfl, hp⟩ := ih fun y hy => hx y (List.mem_cons_of_mem _ hy)
        have q := hx x List.mem_cons_self
        unfold wh at q
        split at q
        · rename_i v
          rw [Bool.and_eq_true, decide_eq_true_eq, decide_eq_true_eq] at q
          refine ⟨v :: p, rfl, fun u hu => ?_⟩
          rcases List.mem_cons.mp hu with rfl | hu
          · exact q
          · exact hp u hu
        · cases q
    obtain ⟨p, rfl, hp⟩ := z l h2
    exact ⟨p, rfl, by rw [← h1, zs_len], hp⟩
  · cases h
theorem whs_of {lo hi : Int} {p : List Int} (h : ∀ v ∈ p, lo ≤ v ∧ v ≤ hi) {n : Int} (hn : (p.length : Int) = n) : whs n lo hi (.tuple (zs p)) = true := by
  unfold whs
  rw [Bool.and_eq_true, decide_eq_true_eq, List.all_eq_true]
  refine ⟨by rw [zs_len]; exact hn, fun x hx => ?_⟩
  obtain ⟨v, hv, rfl⟩ := List.mem_map.mp hx
  obtain ⟨h1, h2⟩ := h v hv
  show (decide (lo ≤ v) && decide (v ≤ hi)) = true
  rw [decide_eq_true h1, decide_eq_true h2]
  rfl
theorem whs_tup (n lo hi : Int) (l : List D) : whs n lo hi (.tuple l) = (decide ((l.length : Int) = n) && l.all (wh lo hi)) := rfl
theorem is_whole (d : D) (lo hi : Int) (k : Int × Int) : D_is_whole [d, .int lo, .int hi] k = .ok (.bool (wh lo hi d)) k := by
  cases d with
  | int v =>
    have h1 : eIsi isIntD (eVar 0) ⟨[.val (.int v), .val (.int lo), .val (.int hi)], k⟩ = .ok (.bool true) ⟨[.val (.int v), .val (.int lo), .val (.int hi)], k⟩ := rfl
    have h2 : eNot (eIsi isBoolD (eVar 0)) ⟨[.val (.int v), .val (.int lo), .val (.int hi)], k⟩ = .ok (.bool true) ⟨[.val (.int v), .val (.int lo), .val (.int hi)], k⟩ := rfl
    have h3 : eChain leD leD (eVar 1) (eVar 0) (eVar 2) ⟨[.val (.int v), .val (.int lo), .val (.int hi)], k⟩ = .ok (.bool (decide (lo ≤ v) && decide (v ≤ hi))) ⟨[.val (.int v), .val (.int lo), .val (.int hi)], k⟩ := eChain_eq (x := .int lo) (y := .int v) (z := .int hi) rfl rfl rfl rfl rfl
    exact den_rt (k := k) (sRet_eq ((eAnd_t h1).trans ((eAnd_t h2).trans h3)))
  | _ => rfl
theorem is_tuple (d : D) (lo hi : Int) (k : Int × Int) : D_is_tuple_of [d, .int lo, .int hi] k = .ok (.bool (match d with | .tuple l => decide (lo ≤ (l.length : Int)) && decide ((l.length : Int) ≤ hi) | _ => false)) k := by
  cases d with
  | tuple l =>
    have h1 : eIsi isTupD (eVar 0) ⟨[.val (.tuple l), .val (.int lo), .val (.int hi)], k⟩ = .ok (.bool true) ⟨[.val (.tuple l), .val (.int lo), .val (.int hi)], k⟩ := rfl
    have h3 : eChain leD leD (eVar 1) (pkF 0 (PL.ret ()) fun d _ => lenD [d]) (eVar 2) ⟨[.val (.tuple l), .val (.int lo), .val (.int hi)], k⟩ = .ok (.bool (decide (lo ≤ (l.length : Int)) && decide ((l.length : Int) ≤ hi))) ⟨[.val (.tuple l), .val (.int lo), .val (.int hi)], k⟩ :=
      eChain_eq (x := .int lo) (y := .int l.length) (z := .int hi) rfl (pkF_eq (a := ()) rfl rfl rfl (len_tup l)) rfl rfl rfl
    exact den_rt (k := k) (sRet_eq ((eAnd_t h1).trans h3))
  | _ => rfl
theorem asB_map (f : D → Bool) : ∀ l : List D, asBools (l.map fun d => .bool (f d)) = some (l.map f)
  | [] => rfl
  | d :: l => by
    show asBools (.bool (f d) :: l.map _) = _
    unfold asBools
    rw [asB_map f l]
    rfl
theorem are_wholes (d : D) (n lo hi : Int) (k : Int × Int) (h : Sm d) : D_are_wholes [d, .int n, .int lo, .int hi] k = .ok (.bool (whs n lo hi d)) k := by
  cases d with
  | tuple l =>
    have h1 : eCall none D_is_tuple_of (aCons (eVar 0) (aCons (eVar 1) (aCons (eVar 1) aNil))) ⟨[.val (.tuple l), .val (.int n), .val (.int lo), .val (.int hi), .un], k⟩ = .ok (.bool (decide ((l.length : Int) = n))) ⟨[.val (.tuple l), .val (.int n), .val (.int lo), .val (.int hi), .un], k⟩ := by
      refine eCall_eq (k := k) (aCons_eq rfl (aCons_eq rfl (aCons_eq rfl rfl))) ?_
      rw [is_tuple]
      dsimp only
      by_cases e : (l.length : Int) = n
      · rw [decide_eq_true e, decide_eq_true (by omega), decide_eq_true (by omega)]
        rfl
      · rw [decide_eq_false e]
        by_cases e2 : n ≤ (l.length : Int)
        · rw [decide_eq_true e2, decide_eq_false (by omega)]
          rfl
        · rw [decide_eq_false e2]
          rfl
    by_cases e : (l.length : Int) = n
    · rw [decide_eq_true e] at h1
      have q1 : eLc (bnd (eVar 0) itD) (gN 4) (PL.ret true) (eCall none D_is_whole (aCons (eVar 4) (aCons (eVar 2) (aCons (eVar 3) aNil)))) [4] ⟨[.val (.tuple l), .val (.int n), .val (.int lo), .val (.int hi), .un], k⟩ = .ok (l.map fun d => .bool (wh lo hi d)) ⟨[.val (.tuple l), .val (.int n), .val (.int lo), .val (.int hi), .un], k⟩ :=
        eLc_map (r0 := [.val (.tuple l), .val (.int n), .val (.int lo), .val (.int hi), .un]) (r2 := [.val (.tuple l), .val (.int n), .val (.int lo), .val (.int hi), .un]) (s1 := ⟨[.val (.tuple l), .val (.int n), .val (.int lo), .val (.int hi), .un], k⟩) (xs := l) rfl (Nat.le_trans (h l rfl) (by decide)) rfl rfl fun d hd =>
          ⟨[.val (.tuple l), .val (.int n), .val (.int lo), .val (.int hi), .val d], asg_eq gN_eq (eCall_eq (k := k) (aCons_eq rfl (aCons_eq rfl (aCons_eq rfl rfl))) (is_whole d lo hi k)), rfl⟩
      have ha : allD [.list (l.map fun d => .bool (wh lo hi d))] = some (.bool (whs n lo hi (.tuple l))) := by
        show (asBools (l.map fun d => .bool (wh lo hi d))).map _ = _
        rw [asB_map, Option.map_some]
        rw [whs_tup, decide_eq_true e, Bool.true_and, List.all_map]
        rfl
      exact den_rt (k := k) (sRet_eq ((eAnd_t h1).trans (eA1_eq (frz_eq q1) ha)))
    · rw [decide_eq_false e] at h1
      have z := den_rt (k := k) (N := N_are_wholes.length) (cf := false) (args := [.tuple l, .int n, .int lo, .int hi]) (sRet_eq (eAnd_f (mb := eA allD (aCons (frz (eLc (bnd (eVar 0) itD) (gN 4) (PL.ret true) (eCall none D_is_whole (aCons (eVar 4) (aCons (eVar 2) (aCons (eVar 3) aNil)))) [4])) aNil)) h1))
      rw [whs_tup, decide_eq_false e]
      exact z
  | _ => rfl
theorem law_whole (d : D) (lo hi : Int) (k : Int × Int) : D__law_whole [d, .int lo, .int hi] k = .ok (.bool (wh lo hi d)) k := by
  cases d with
  | int v =>
    have h1 : e2 eqD (eCall none D__law_sort (aCons (eVar 0) aNil)) (eC (.int 2)) ⟨[.val (.int v), .val (.int lo), .val (.int hi)], k⟩ = .ok (.bool true) ⟨[.val (.int v), .val (.int lo), .val (.int hi)], k⟩ := rfl
    have h3 : eChain leD leD (eVar 1) (eVar 0) (eVar 2) ⟨[.val (.int v), .val (.int lo), .val (.int hi)], k⟩ = .ok (.bool (decide (lo ≤ v) && decide (v ≤ hi))) ⟨[.val (.int v), .val (.int lo), .val (.int hi)], k⟩ := eChain_eq (x := .int lo) (y := .int v) (z := .int hi) rfl rfl rfl rfl rfl
    exact den_rt (k := k) (sRet_eq ((eAnd_t h1).trans h3))
  | _ => rfl
theorem nots_nil {α : Type} {p : α → Bool} : ∀ l : List α, ((l.filter fun d => !p d).map fun _ => (1 : Int)) = [] ↔ l.all p = true
  | [] => by simp
  | d :: l => by
    have ih := nots_nil (p := p) l
    cases h : p d with
    | true => simp [List.filter_cons, h]
    | false => simp [List.filter_cons, h]
theorem law_wholes (d : D) (n lo hi : Int) (k : Int × Int) (h : Sm d) : D__law_wholes [d, .int n, .int lo, .int hi] k = .ok (.bool (whs n lo hi d)) k := by
  cases d with
  | tuple l =>
    have h1 : e2 eqD (eCall none D__law_sort (aCons (eVar 0) aNil)) (eC (.int 4)) ⟨[.val (.tuple l), .val (.int n), .val (.int lo), .val (.int hi), .un], k⟩ = .ok (.bool true) ⟨[.val (.tuple l), .val (.int n), .val (.int lo), .val (.int hi), .un], k⟩ := rfl
    have h2 : e2 eqD (pkF 0 (PL.ret ()) fun d _ => lenD [d]) (eVar 1) ⟨[.val (.tuple l), .val (.int n), .val (.int lo), .val (.int hi), .un], k⟩ = .ok (.bool (decide ((l.length : Int) = n))) ⟨[.val (.tuple l), .val (.int n), .val (.int lo), .val (.int hi), .un], k⟩ := e2_eq (y := .int n) (pkF_eq (a := ()) rfl rfl rfl (len_tup l)) rfl (eq_int _ _)
    by_cases e : (l.length : Int) = n
    · rw [decide_eq_true e] at h2
      have q1 : eLc (bnd (eVar 0) itD) (gN 4) (tNot (tV (eCall none D__law_whole (aCons (eVar 4) (aCons (eVar 2) (aCons (eVar 3) aNil)))))) (eC (.int 1)) [4] ⟨[.val (.tuple l), .val (.int n), .val (.int lo), .val (.int hi), .un], k⟩ = .ok (zs ((l.filter fun d => !wh lo hi d).map fun _ => (1 : Int))) ⟨[.val (.tuple l), .val (.int n), .val (.int lo), .val (.int hi), .un], k⟩ := by
        have z := eLc_filter (asg := gN 4) (tst := tNot (tV (eCall none D__law_whole (aCons (eVar 4) (aCons (eVar 2) (aCons (eVar 3) aNil)))))) (elt := eC (.int 1)) (vs := [4]) (p := fun d => !wh lo hi d) (f := fun _ => .int 1) (r0 := [.val (.tuple l), .val (.int n), .val (.int lo), .val (.int hi), .un]) (r2 := [.val (.tuple l), .val (.int n), .val (.int lo), .val (.int hi), .un]) (s1 := ⟨[.val (.tuple l), .val (.int n), .val (.int lo), .val (.int hi), .un], k⟩) (src := bnd (eVar 0) itD) (s := ⟨[.val (.tuple l), .val (.int n), .val (.int lo), .val (.int hi), .un], k⟩) (xs := l) rfl (Nat.le_trans (h l rfl) (by decide)) rfl rfl fun d hd => by
          refine ⟨[.val (.tuple l), .val (.int n), .val (.int lo), .val (.int hi), .val d], asg_eq gN_eq (tNot_eq (tV_eq (eCall_eq (k := k) (aCons_eq rfl (aCons_eq rfl (aCons_eq rfl rfl))) (law_whole d lo hi k)))), ?_⟩
          split
          · exact ⟨_, rfl, rfl⟩
          · rfl
        rw [z]
        unfold zs
        rw [List.map_map]
        rfl
      have h3 : e2 eqD (frz (eLc (bnd (eVar 0) itD) (gN 4) (tNot (tV (eCall none D__law_whole (aCons (eVar 4) (aCons (eVar 2) (aCons (eVar 3) aNil)))))) (eC (.int 1)) [4])) (eA lstD aNil) ⟨[.val (.tuple l), .val (.int n), .val (.int lo), .val (.int hi), .un], k⟩ = .ok (.bool (whs n lo hi (.tuple l))) ⟨[.val (.tuple l), .val (.int n), .val (.int lo), .val (.int hi), .un], k⟩ := by
        refine e2_eq (y := .list (zs [])) (frz_eq q1) rfl ?_
        rw [eq_lst]
        rw [whs_tup, decide_eq_true e, Bool.true_and]
        congr 2
        rw [Bool.eq_iff_iff, decide_eq_true_eq]
        exact nots_nil l
      exact den_rt (k := k) (sRet_eq ((eAnd_t h1).trans ((eAnd_t h2).trans h3)))
    · rw [decide_eq_false e] at h2
      have z := den_rt (k := k) (N := N__law_wholes.length) (cf := false) (args := [.tuple l, .int n, .int lo, .int hi]) (sRet_eq ((eAnd_t h1).trans (eAnd_f (mb := e2 eqD (frz (eLc (bnd (eVar 0) itD) (gN 4) (tNot (tV (eCall none D__law_whole (aCons (eVar 4) (aCons (eVar 2) (aCons (eVar 3) aNil)))))) (eC (.int 1)) [4])) (eA lstD aNil)) h2)))
      rw [whs_tup, decide_eq_false e]
      exact z
  | _ => rfl
/-! ### bent values -/
def Bt : Nat → D → Prop
  | 0, d => ∀ ds, d ≠ .tuple ds
  | n + 1, d => (∀ ds, d ≠ .tuple ds) ∨ ∃ ds, d = .tuple ds ∧ ds.length ≤ 100 ∧ shD d = true ∧ ∀ e ∈ ds, Bt n e
def SmP (P : D → Prop) (d : D) : Prop := ∀ l, d = .tuple l → l.length ≤ 1000 ∧ ∀ x ∈ l, P x
abbrev bs (d : D) (a b c : Sl) (k : Int × Int) : S := ⟨[.cup, .val d, a, b, c], k⟩
def odds : List D := [.none, .bool true, .bool false, .int 0, .int 1, .int (-1), .int 2, .int 9, .str "", .tuple [], .list [], .tuple [.int 0], .tuple [.int 0, .int 0], .tuple [.int 1, .int 1], .tuple [.int 0, .int 1]]
theorem bent_odd {P : D → Prop} (hI : ∀ v, P (.int v)) (d : D) {k : Int × Int} (hk : CupOk k) : ∃ e k' a, (sq (sSet 2 (eA lstD (aCons (eC .none) (aCons (eC (.bool true)) (aCons (eC (.bool false)) (aCons (eC (.int 0)) (aCons (eC (.int 1)) (aCons (e1 negD (eC (.int 1))) (aCons (eC (.int 2)) (aCons (eC (.int 9)) (aCons (eC (.str "")) (aCons (eA tupD aNil) (aCons (eA lstD aNil) (aCons (eA tupD (aCons (eC (.int 0)) aNil)) (aCons (eA tupD (aCons (eC (.int 0)) (aCons (eC (.int 0)) aNil))) (aCons (eA tupD (aCons (eC (.int 1)) (aCons (eC (.int 1)) aNil))) (aCons (eA tupD (aCons (eC (.int 0)) (aCons (eC (.int 1)) aNil))) aNil))))))))))))))))) (sRet (eCall (some 0) D__law_some (aCons (e2 addD (eVar 2) (eIf (tV (e2 eqD (eCall none D__law_sort (aCons (eVar 1) aNil)) (eC (.int 2)))) (e2 mulD (eA lstD (aCons (e2 addD (eVar 1) (eC (.int 1))) (aCons (e2 subD (eVar 1) (eC (.int 1))) aNil))) (eC (.int 4))) (eA lstD aNil))) aNil)))) (bs d .un .un .un k) = .ok (.rt e) ⟨a, k'⟩ ∧ SmP P e ∧ CupOk k' := by
  have e1 : ∃ xs, e2 addD (eVar 2) (eIf (tV (e2 eqD (eCall none D__law_sort (aCons (eVar 1) aNil)) (eC (.int 2)))) (e2 mulD (eA lstD (aCons (e2 addD (eVar 1) (eC (.int 1))) (aCons (e2 subD (eVar 1) (eC (.int 1))) aNil))) (eC (.int 4))) (eA lstD aNil)) (bs d (.val (.list odds)) .un .un k) = .ok (.list xs) (bs d (.val (.list odds)) .un .un k) ∧ xs ≠ [] ∧ xs.length ≤ 1000 ∧ ∀ e ∈ xs, SmP P e := by
    have so : ∀ e ∈ odds, SmP P e := fun e he l hl => by
      subst hl
      simp only [odds, List.mem_cons, List.not_mem_nil, or_false, PyData.tuple.injEq, reduceCtorEq, false_or] at he
      rcases he with rfl | rfl | rfl | rfl | rfl <;> simp [hI]
    cases d with
    | int v =>
      refine ⟨odds ++ [.int (v + 1), .int (v - 1), .int (v + 1), .int (v - 1), .int (v + 1), .int (v - 1), .int (v + 1), .int (v - 1)], e2_eq (x := .list odds) rfl ((eIf_t (s1 := bs (.int v) (.val (.list odds)) .un .un k) rfl).trans rfl) rfl, by simp [odds], by simp [odds], fun e he => ?_⟩
      rcases List.mem_append.mp he with he | he
      · exact so e he
      · intro l hl
        subst hl
        simp at he
    | _ => exact ⟨odds, rfl, by simp [odds], by simp [odds], so⟩
  obtain ⟨xs, e1, hn, hl, hs⟩ := e1
  obtain ⟨e, k', e2', he, hk'⟩ := some_ hk hn hl
  exact ⟨e, k', _, sq_nx (sSet_eq (i := 2) (s := bs d .un .un .un k) (s1 := bs d .un .un .un k) (d := .list odds) rfl) (sRet_eq (eCallC_eq (i := 0) (k := k') rfl (aCons_eq e1 rfl) e2')), hs e he, hk'⟩
theorem cut_len (ds : List D) (lo hi : Option Int) : (cutD ds lo hi).length ≤ ds.length := by
  unfold cutD
  rw [List.length_take, List.length_drop]
  omega
theorem cut_mem {ds : List D} {lo hi : Option Int} {x : D} (h : x ∈ cutD ds lo hi) : x ∈ ds := List.mem_of_mem_drop (List.mem_of_mem_take h)
theorem isTup_no {d : D} (h : ∀ ds, d ≠ .tuple ds) : isTupD d = false := by
  cases d with
  | tuple l => exact absurd rfl (h l)
  | _ => rfl
theorem bent_no {P : D → Prop} (hI : ∀ v, P (.int v)) (L : Dn) {d : D} (h : ∀ ds, d ≠ .tuple ds) {k : Int × Int} (hk : CupOk k) : ∃ e k', denOf N__law_bent.length true (m__law_bent L) [d] k = .ok e k' ∧ SmP P e ∧ CupOk k' := by
  obtain ⟨e, k', a, h1, h2, h3⟩ := bent_odd hI d hk
  refine ⟨e, k', ?_, h2, h3⟩
  have t1 : eIsi isTupD (eVar 1) (bs d .un .un .un k) = .ok (.bool false) (bs d .un .un .un k) := by
    show Res.ok (PyData.bool (isTupD d)) _ = _
    rw [isTup_no h]
  exact den_rt (k := k) (s1 := ⟨a, k'⟩) (sq_rt ((sIf_t (tOr_t (tNot_eq (tV_eq t1)))).trans h1))
theorem add_tup {a b : List D} (h : a.length + b.length ≤ lim) : addD (.tuple a) (.tuple b) = some (.tuple (a ++ b)) := if_pos h
theorem sm_app {P : D → Prop} {a b c : List D} (h : a.length + b.length + c.length ≤ 1000) (ha : ∀ x ∈ a, P x) (hb : ∀ x ∈ b, P x) (hc : ∀ x ∈ c, P x) : SmP P (.tuple (a ++ b ++ c)) := fun l hl => by
  cases hl
  refine ⟨by rw [List.length_append, List.length_append]; exact h, fun x hx => ?_⟩
  rcases List.mem_append.mp hx with hx | hx
  · rcases List.mem_append.mp hx with hx | hx
    · exact ha x hx
    · exact hb x hx
  · exact hc x hx
theorem bent_tup {P : D → Prop} (hI : ∀ v, P (.int v)) (L : Dn) {ds : List D} {k : Int × Int} (hk : CupOk k) (hl : ds.length ≤ 100) (hs : shD (.tuple ds) = true) (hP : ∀ e ∈ ds, P e) (h : ∀ e ∈ ds, ∀ k, CupOk k → ∃ f k', L [e] k = .ok f k' ∧ P f ∧ CupOk k') :
    ∃ e k', denOf N__law_bent.length true (m__law_bent L) [.tuple ds] k = .ok e k' ∧ SmP P e ∧ CupOk k' := by
  have hm : lim = 1000000 := rfl
  have t0 : tNot (tV (eIsi isTupD (eVar 1))) (bs (.tuple ds) .un .un .un k) = .ok false (bs (.tuple ds) .un .un .un k) := rfl
  have t1 : tV (e2 eqD (eVar 1) (eA tupD aNil)) (bs (.tuple ds) .un .un .un k) = .ok (decide (ds = [])) (bs (.tuple ds) .un .un .un k) := by
    refine tV_eq (e2_eq (x := .tuple ds) (y := .tuple []) rfl rfl ?_)
    have s0 : shD (.tuple []) = true := sh_tup []
    unfold eqD
    rw [hs, s0, if_pos (show (true && true) = true from rfl)]
    cases ds <;> rfl
  by_cases h0 : ds = []
  · obtain ⟨e, k', a, h1, h2, h3⟩ := bent_odd hI (.tuple ds) hk
    rw [decide_eq_true h0] at t1
    exact ⟨e, k', den_rt (k := k) (s1 := ⟨a, k'⟩) (sq_rt ((sIf_t ((tOr_f t0).trans (tOr_t t1))).trans h1)), h2, h3⟩
  · rw [decide_eq_false h0] at t1
    obtain ⟨r, k1, e1, r0, r1, hk1⟩ := roll hk (n := 6) (by decide) (by decide)
    have t2 : tV (e2 eqD (eCall (some 0) D__law_roll (aCons (eC (.int 6)) aNil)) (eC (.int 0))) (bs (.tuple ds) .un .un .un k) = .ok (decide (r = 0)) (bs (.tuple ds) .un .un .un k1) :=
      tV_eq (e2_eq (x := .int r) (y := .int 0) (eCallC_eq (k := k1) rfl rfl e1) rfl (eq_int _ _))
    have t3 := (tOr_f t0).trans ((tOr_f t1).trans t2)
    by_cases hr : r = 0
    · obtain ⟨e, k', a, h1, h2, h3⟩ := bent_odd hI (.tuple ds) hk1
      rw [decide_eq_true hr] at t3
      exact ⟨e, k', den_rt (k := k) (s1 := ⟨a, k'⟩) (sq_rt ((sIf_t t3).trans h1)), h2, h3⟩
    · rw [decide_eq_false hr] at t3
      have hp : 0 < ds.length := List.length_pos_iff.mpr h0
      obtain ⟨at_, k2, e2', a0, a1, hk2⟩ := roll hk1 (n := (ds.length : Int)) (by omega) (by omega)
      obtain ⟨way, k3, e3, w0, w1, hk3⟩ := roll hk2 (n := 10) (by decide) (by decide)
      have s1 : sPar [3, 4] (oVal (eCall (some 0) D__law_roll (aCons (pkF 1 (PL.ret ()) fun d _ => lenD [d]) aNil)) (oVal (eCall (some 0) D__law_roll (aCons (eC (.int 10)) aNil)) oNil)) (bs (.tuple ds) .un .un .un k1) = .ok .nx (bs (.tuple ds) .un (.val (.int at_)) (.val (.int way)) k3) := by
        refine src_eq (a := [.val (.int at_), .val (.int way)]) (s1 := bs (.tuple ds) .un .un .un k3) ?_ rfl
        exact src_eq (eCallC_eq (i := 0) (k := k2) (s := bs (.tuple ds) .un .un .un k1) rfl (aCons_eq (pkF_eq (a := ()) rfl rfl rfl (len_tup ds)) rfl) e2') (src_eq (src_eq (eCallC_eq (i := 0) (k := k3) (s := bs (.tuple ds) .un .un .un k2) (ds := [.int 10]) rfl rfl e3) rfl) rfl)
      have cl := cut_len ds
      have p1 : pkF 1 (two (PL.ret none) (bnd (eVar 3) asI)) (fun d y => sliD y.1 y.2 d) (bs (.tuple ds) .un (.val (.int at_)) (.val (.int way)) k3) = .ok (.tuple (cutD ds none (some at_))) (bs (.tuple ds) .un (.val (.int at_)) (.val (.int way)) k3) := pkF_eq (a := (none, some at_)) rfl rfl rfl rfl
      by_cases hw2 : way < 2
      · have q1 : tV (e2 ltD (eVar 4) (eC (.int 2))) (bs (.tuple ds) .un (.val (.int at_)) (.val (.int way)) k3) = .ok true (bs (.tuple ds) .un (.val (.int at_)) (.val (.int way)) k3) := tV_eq (e2_eq (x := .int way) (y := .int 2) rfl rfl (by show some (PyData.bool (decide (way < 2))) = _; rw [decide_eq_true hw2]))
        have p2 : pkF 1 (two (bnd (e2 addD (eVar 3) (eVar 4)) asI) (PL.ret none)) (fun d y => sliD y.1 y.2 d) (bs (.tuple ds) .un (.val (.int at_)) (.val (.int way)) k3) = .ok (.tuple (cutD ds (some (at_ + way)) none)) (bs (.tuple ds) .un (.val (.int at_)) (.val (.int way)) k3) := pkF_eq (a := (some (at_ + way), none)) rfl rfl rfl rfl
        have p3 : ∃ c : List D, c.length ≤ 100 ∧ (∀ x ∈ c, P x) ∧ eIf (tV (e2 eqD (eVar 4) (eC (.int 0)))) (pkF 1 (two (bnd (eVar 3) asI) (bnd (e2 addD (eVar 3) (eC (.int 1))) asI)) fun d y => sliD y.1 y.2 d) (eA tupD aNil) (bs (.tuple ds) .un (.val (.int at_)) (.val (.int way)) k3) = .ok (.tuple c) (bs (.tuple ds) .un (.val (.int at_)) (.val (.int way)) k3) := by
          have q2 : tV (e2 eqD (eVar 4) (eC (.int 0))) (bs (.tuple ds) .un (.val (.int at_)) (.val (.int way)) k3) = .ok (decide (way = 0)) (bs (.tuple ds) .un (.val (.int at_)) (.val (.int way)) k3) := tV_eq (e2_eq (x := .int way) (y := .int 0) rfl rfl (eq_int _ _))
          by_cases h4 : way = 0
          · rw [decide_eq_true h4] at q2
            exact ⟨cutD ds (some at_) (some (at_ + 1)), Nat.le_trans (cl _ _) hl, fun x hx => hP x (cut_mem hx), (eIf_t q2).trans (pkF_eq (a := (some at_, some (at_ + 1))) rfl rfl rfl rfl)⟩
          · rw [decide_eq_false h4] at q2
            exact ⟨[], by simp, fun x hx => absurd hx (by simp), (eIf_f q2).trans rfl⟩
        obtain ⟨c, hc, hcP, p3⟩ := p3
        have c1 := cl none (some at_)
        have c2 := cl (some (at_ + way)) none
        have hv := e2_eq (e2_eq p1 p2 (add_tup (by omega))) p3 (add_tup (by rw [List.length_append]; omega))
        exact ⟨_, k3, den_rt (k := k) (sq_nx ((sIf_f t3).trans rfl) (sq_nx s1 (sq_rt ((sIf_t q1).trans (sRet_eq hv))))), sm_app (by omega) (fun x hx => hP x (cut_mem hx)) (fun x hx => hP x (cut_mem hx)) hcP, hk3⟩
      · have q1 : tV (e2 ltD (eVar 4) (eC (.int 2))) (bs (.tuple ds) .un (.val (.int at_)) (.val (.int way)) k3) = .ok false (bs (.tuple ds) .un (.val (.int at_)) (.val (.int way)) k3) := tV_eq (e2_eq (x := .int way) (y := .int 2) rfl rfl (by show some (PyData.bool (decide (way < 2))) = _; rw [decide_eq_false hw2]))
        have q2 : tV (e2 eqD (eVar 4) (eC (.int 2))) (bs (.tuple ds) .un (.val (.int at_)) (.val (.int way)) k3) = .ok (decide (way = 2)) (bs (.tuple ds) .un (.val (.int at_)) (.val (.int way)) k3) := tV_eq (e2_eq (x := .int way) (y := .int 2) rfl rfl (eq_int _ _))
        by_cases h4 : way = 2
        · rw [decide_eq_true h4] at q2
          have hv : eA lstOfD (aCons (eVar 1) aNil) (bs (.tuple ds) .un (.val (.int at_)) (.val (.int way)) k3) = .ok (.list ds) (bs (.tuple ds) .un (.val (.int at_)) (.val (.int way)) k3) := rfl
          exact ⟨.list ds, k3, den_rt (k := k) (s1 := bs (.tuple ds) .un (.val (.int at_)) (.val (.int way)) k3) (sq_nx ((sIf_f t3).trans rfl) (sq_nx s1 (sq_nx ((sIf_f q1).trans rfl) (sq_rt ((sIf_t q2).trans (sRet_eq hv)))))), (fun l hl => by cases hl), hk3⟩
        · rw [decide_eq_false h4] at q2
          have q3 : tV (e2 eqD (eVar 4) (eC (.int 3))) (bs (.tuple ds) .un (.val (.int at_)) (.val (.int way)) k3) = .ok (decide (way = 3)) (bs (.tuple ds) .un (.val (.int at_)) (.val (.int way)) k3) := tV_eq (e2_eq (x := .int way) (y := .int 3) rfl rfl (eq_int _ _))
          by_cases h5 : way = 3
          · rw [decide_eq_true h5] at q3
            have hv : PL.e1 revD (eVar 1) (bs (.tuple ds) .un (.val (.int at_)) (.val (.int way)) k3) = .ok (.tuple ds.reverse) (bs (.tuple ds) .un (.val (.int at_)) (.val (.int way)) k3) := rfl
            exact ⟨.tuple ds.reverse, k3, den_rt (k := k) (s1 := bs (.tuple ds) .un (.val (.int at_)) (.val (.int way)) k3) (sq_nx ((sIf_f t3).trans rfl) (sq_nx s1 (sq_nx ((sIf_f q1).trans rfl) (sq_nx ((sIf_f q2).trans rfl) (sq_rt ((sIf_t q3).trans (sRet_eq hv))))))), (fun l hl' => by cases hl'; exact ⟨by rw [List.length_reverse]; omega, fun x hx => hP x (List.mem_reverse.mp hx)⟩), hk3⟩
          · rw [decide_eq_false h5] at q3
            obtain ⟨an, ean⟩ : ∃ an : Nat, (an : Int) = at_ := ⟨at_.toNat, Int.toNat_of_nonneg a0⟩
            have hb : an < ds.length := by omega
            have hi : idxD (.tuple ds) (.int (an : Nat)) = some (ds[an]'hb) := at_pos (List.getElem?_eq_getElem hb)
            rw [ean] at hi
            obtain ⟨f, k4, e4, hf, hk4⟩ := h _ (List.getElem_mem hb) k3 hk3
            have p2 : eA tupD (aCons (eCall (some 0) L (aCons (pkF 1 (eVar 3) idxD) aNil)) aNil) (bs (.tuple ds) .un (.val (.int at_)) (.val (.int way)) k3) = .ok (.tuple [f]) (bs (.tuple ds) .un (.val (.int at_)) (.val (.int way)) k4) :=
              eA_eq (aCons_eq (eCallC_eq (k := k4) rfl (aCons_eq (pkF_eq (a := .int at_) rfl rfl rfl hi) rfl) e4) rfl) rfl
            have p3 : pkF 1 (two (bnd (e2 addD (eVar 3) (eC (.int 1))) asI) (PL.ret none)) (fun d y => sliD y.1 y.2 d) (bs (.tuple ds) .un (.val (.int at_)) (.val (.int way)) k4) = .ok (.tuple (cutD ds (some (at_ + 1)) none)) (bs (.tuple ds) .un (.val (.int at_)) (.val (.int way)) k4) := pkF_eq (a := (some (at_ + 1), none)) rfl rfl rfl rfl
            have c1 := cl none (some at_)
            have c2 := cl (some (at_ + 1)) none
            have hv := e2_eq (e2_eq p1 p2 (add_tup (by simp; omega))) p3 (add_tup (by rw [List.length_append]; simp; omega))
            exact ⟨_, k4, den_rt (k := k) (sq_nx ((sIf_f t3).trans rfl) (sq_nx s1 (sq_nx ((sIf_f q1).trans rfl) (sq_nx ((sIf_f q2).trans rfl) (sq_nx ((sIf_f q3).trans rfl) (sRet_eq hv)))))), sm_app (by simp; omega) (fun x hx => hP x (cut_mem hx)) (fun x hx => by rw [List.mem_singleton.mp hx]; exact hf) (fun x hx => hP x (cut_mem hx)), hk4⟩
def Pm : Nat → D → Prop
  | 0, _ => True
  | m + 1, d => SmP (Pm m) d
def Hm : Nat → D → Prop
  | 0, _ => True
  | m + 1, d => ∀ l, d = .tuple l → ∀ e ∈ l, Pm (m + 1) e ∧ Hm m e
theorem pm_int : ∀ (m : Nat) (v : Int), Pm m (.int v)
  | 0, _ => trivial
  | m + 1, v => fun l hl => by cases hl
theorem bentP : ∀ (n m : Nat) (d : D) (k : Int × Int), Bt n d → Hm m d → CupOk k → ∃ e k', L__law_bent (n + 1) [d] k = .ok e k' ∧ Pm (m + 1) e ∧ CupOk k'
  | 0, m, d, k, h, _, hk => bent_no (pm_int m) (L__law_bent 0) h hk
  | n + 1, m, d, k, .inl h, _, hk => bent_no (pm_int m) (L__law_bent (n + 1)) h hk
  | n + 1, 0, d, k, .inr ⟨ds, e, hl, hs, h⟩, _, hk => by
    subst e
    refine bent_tup (pm_int 0) (L__law_bent (n + 1)) hk hl hs (fun _ _ => trivial) fun e he k hk => ?_
    obtain ⟨f, k', h1, _, h3⟩ := bentP n 0 e k (h e he) trivial hk
    exact ⟨f, k', h1, trivial, h3⟩
  | n + 1, m + 1, d, k, .inr ⟨ds, e, hl, hs, h⟩, hH, hk => by
    subst e
    exact bent_tup (pm_int (m + 1)) (L__law_bent (n + 1)) hk hl hs (fun e he => (hH ds rfl e he).1) fun e he k hk => bentP n m e k (h e he) (hH ds rfl e he).2 hk
theorem bent (n : Nat) (d : D) (k : Int × Int) (h : Bt n d) (hk : CupOk k) : ∃ e k', L__law_bent (n + 1) [d] k = .ok e k' ∧ Sm e ∧ CupOk k' := by
  obtain ⟨e, k', h1, h2, h3⟩ := bentP n 0 d k h trivial hk
  exact ⟨e, k', h1, fun l hl => (h2 l hl).1, h3⟩
theorem bt_zs (p : List Int) (h : p.length ≤ 100) : Bt 1 (.tuple (zs p)) := .inr ⟨zs p, rfl, by rw [zs_len]; exact h, sh_tup p, fun e he => by
  obtain ⟨v, _, rfl⟩ := List.mem_map.mp he
  exact fun ds hd => by cases hd⟩
theorem bt_up : ∀ (n : Nat) (d : D), Bt n d → Bt (n + 1) d
  | 0, d, h => .inl h
  | n + 1, d, .inl h => .inl h
  | n + 1, d, .inr ⟨ds, e, hl, hs, h⟩ => .inr ⟨ds, e, hl, hs, fun x hx => bt_up n x (h x hx)⟩
theorem bt_ups {n m : Nat} {d : D} (h : Bt n d) (hm : n ≤ m) : Bt m d := by
  induction m with
  | zero => exact (Nat.le_zero.mp hm) ▸ h
  | succ m ih =>
    by_cases e : n = m + 1
    · exact e ▸ h
    · exact bt_up m d (ih (by omega))
end LL
set_option maxHeartbeats 2000000
/-! ### power rows over a ring, in plain terms -/
namespace SR
open Lean.Grind
variable {α : Type} [CommRing α]
def sh (f : Nat → α) : Nat → α := fun n => f (n + 1)
def cv : (Nat → α) → (Nat → α) → Nat → α
  | f, g, 0 => f 0 * g 0
  | f, g, n + 1 => f 0 * g (n + 1) + cv (sh f) g n
def dl (a : α) : Nat → α := fun n => if n = 0 then a else 0
def xx : Nat → α := fun n => if n = 1 then 1 else 0
theorem cv0 (f g : Nat → α) : cv f g 0 = f 0 * g 0 := rfl
theorem cvs (f g : Nat → α) (n : Nat) : cv f g (n + 1) = f 0 * g (n + 1) + cv (sh f) g n := rfl
theorem cv_congr {n : Nat} : ∀ {f f' g g' : Nat → α}, (∀ i, i ≤ n → f i = f' i) → (∀ i, i ≤ n → g i = g' i) → cv f g n = cv f' g' n := by
  induction n with
  | zero => intro f f' g g' h1 h2; rw [cv0, cv0, h1 0 (Nat.le_refl _), h2 0 (Nat.le_refl _)]
  | succ n ih =>
    intro f f' g g' h1 h2
    rw [cvs, cvs, h1 0 (Nat.zero_le _), h2 (n + 1) (Nat.le_refl _), ih (f := sh f) (f' := sh f') (g := g) (g' := g') (fun i hi => h1 (i + 1) (by omega)) (fun i hi => h2 i (by omega))]
theorem cv_add_l (f f' g : Nat → α) (n : Nat) : cv (fun i => f i + f' i) g n = cv f g n + cv f' g n := by
  induction n generalizing f f' with
  | zero => rw [cv0, cv0, cv0]; grind
  | succ n ih =>
    rw [cvs, cvs, cvs]
    have e : sh (fun i => f i + f' i) = fun i => sh f i + sh f' i := rfl
    rw [e, ih]; grind
theorem cv_smul_l (a : α) (f g : Nat → α) (n : Nat) : cv (fun i => a * f i) g n = a * cv f g n := by
  induction n generalizing f with
  | zero => rw [cv0, cv0]; grind
  | succ n ih =>
    rw [cvs, cvs]
    have e : sh (fun i => a * f i) = fun i => a * sh f i := rfl
    rw [e, ih]; grind
theorem cv_r (f g : Nat → α) (n : Nat) : cv f g (n + 1) = cv f (sh g) n + f (n + 1) * g 0 := by
  induction n generalizing f with
  | zero => rfl
  | succ n ih =>
    rw [cvs, ih, cvs]
    show f 0 * g (n + 1 + 1) + (cv (sh f) (sh g) n + f (n + 1 + 1) * g 0) = f 0 * g (n + 1 + 1) + cv (sh f) (sh g) n + f (n + 1 + 1) * g 0
    grind
theorem cv_comm (f g : Nat → α) (n : Nat) : cv f g n = cv g f n := by
  induction n generalizing f g with
  | zero => rw [cv0, cv0]; grind
  | succ n ih => rw [cvs, cv_r, ih]; grind
theorem cv_add_r (f g g' : Nat → α) (n : Nat) : cv f (fun i => g i + g' i) n = cv f g n + cv f g' n := by
  rw [cv_comm, cv_add_l, cv_comm g, cv_comm g']
theorem cv_smul_r (a : α) (f g : Nat → α) (n : Nat) : cv f (fun i => a * g i) n = a * cv f g n := by
  rw [cv_comm, cv_smul_l, cv_comm g]
theorem cv_assoc (f g h : Nat → α) (n : Nat) : cv (cv f g) h n = cv f (cv g h) n := by
  induction n generalizing f with
  | zero => rw [cv0, cv0, cv0, cv0]; grind
  | succ n ih =>
    rw [cvs, cvs f]
    have e : sh (cv f g) = fun i => f 0 * sh g i + cv (sh f) g i := rfl
    rw [e, cv_add_l, cv_smul_l, ih, cv0, cvs g]; grind
theorem cv_zero_l (g : Nat → α) (n : Nat) : cv (fun _ => 0) g n = 0 := by
  induction n with
  | zero => rw [cv0]; grind
  | succ n ih =>
    rw [cvs]
    have e : sh (fun _ => (0 : α)) = fun _ => 0 := rfl
    rw [e, ih]; grind
theorem sh_dl (a : α) : sh (dl a) = fun _ => 0 := funext fun i => by
  show (if i + 1 = 0 then a else 0) = 0
  rw [if_neg (by omega)]
theorem cv_dl (a : α) (g : Nat → α) (n : Nat) : cv (dl a) g n = a * g n := by
  cases n with
  | zero => rfl
  | succ n => rw [cvs, sh_dl, cv_zero_l]; show a * g (n + 1) + 0 = _; grind
theorem cv_low {h X Y : Nat → α} {n : Nat} (h0 : h 0 = 0) (e : ∀ i, i < n → X i = Y i) : cv h X n = cv h Y n := by
  cases n with
  | zero => rw [cv0, cv0, h0]; grind
  | succ n => rw [cvs, cvs, h0, cv_congr (f := sh h) (f' := sh h) (fun _ _ => rfl) (fun i hi => e i (by omega))]; grind
/-- one row put into another, to some depth -/
def C : Nat → (Nat → α) → (Nat → α) → Nat → α
  | 0, _, _ => fun _ => 0
  | k + 1, u, h => fun n => dl (u 0) n + cv h (C k (sh u) h) n
def co (u h : Nat → α) : Nat → α := fun n => C (n + 1) u h n
theorem C_deep {h : Nat → α} (h0 : h 0 = 0) : ∀ (k k' : Nat) (u : Nat → α) (n : Nat), n < k → n < k' → C k u h n = C k' u h n
  | k + 1, k' + 1, u, n, h1, h2 => by
    show dl (u 0) n + cv h (C k (sh u) h) n = dl (u 0) n + cv h (C k' (sh u) h) n
    rw [cv_low h0 fun i hi => C_deep h0 k k' (sh u) i (by omega) (by omega)]
theorem co_of {h : Nat → α} (h0 : h 0 = 0) {k n : Nat} (u : Nat → α) (hn : n < k) : C k u h n = co u h n := C_deep h0 k (n + 1) u n hn (by omega)
theorem co_eq {h : Nat → α} (h0 : h 0 = 0) (u : Nat → α) (n : Nat) : co u h n = dl (u 0) n + cv h (co (sh u) h) n := by
  show dl (u 0) n + cv h (C n (sh u) h) n = _
  rw [cv_low h0 fun i hi => co_of h0 (sh u) hi]
theorem co_fn {h : Nat → α} (h0 : h 0 = 0) (u : Nat → α) : co u h = fun n => dl (u 0) n + cv h (co (sh u) h) n := funext fun n => co_eq h0 u n
theorem dl_lin (a b c : α) (n : Nat) : dl (a * b + c) n = a * dl b n + dl c n := by
  unfold dl
  split
  · rfl
  · grind
theorem co_lin {h : Nat → α} (h0 : h 0 = 0) (a : α) (n : Nat) : ∀ (u v : Nat → α), co (fun i => a * u i + v i) h n = a * co u h n + co v h n := by
  induction n using Nat.strongRecOn with
  | ind n ih =>
    intro u v
    rw [co_eq h0, co_eq h0 u, co_eq h0 v, dl_lin]
    have e : cv h (co (sh fun i => a * u i + v i) h) n = cv h (fun i => a * co (sh u) h i + co (sh v) h i) n := cv_low h0 fun i hi => ih i hi (sh u) (sh v)
    rw [e, cv_add_r, cv_smul_r]; grind
theorem co_zero {h : Nat → α} (h0 : h 0 = 0) (n : Nat) : co (fun _ => (0 : α)) h n = 0 := by
  have e := co_lin h0 (0 : α) n (fun _ => 0) (fun _ => 0)
  have e2 := co_lin h0 (1 : α) n (fun _ => 0) (fun _ => 0)
  have e3 : (fun i : Nat => (1 : α) * 0 + 0) = fun _ => 0 := funext fun i => by grind
  rw [e3] at e2
  grind
theorem co_dl {h : Nat → α} (h0 : h 0 = 0) (a : α) (n : Nat) : co (dl a) h n = dl a n := by
  rw [co_eq h0, sh_dl]
  have e : cv h (co (fun _ => (0 : α)) h) n = cv h (fun _ => 0) n := cv_low h0 fun i _ => co_zero h0 i
  rw [e, cv_comm, cv_zero_l]
  show dl a n + 0 = _
  grind
theorem dl_mul (a b : α) (n : Nat) : dl (a * b) n = a * dl b n := by
  unfold dl
  split
  · rfl
  · grind
theorem co_mul {h : Nat → α} (h0 : h 0 = 0) (v : Nat → α) (n : Nat) : ∀ u : Nat → α, co (cv u v) h n = cv (co u h) (co v h) n := by
  induction n using Nat.strongRecOn with
  | ind n ih =>
    intro u
    rw [co_eq h0, co_fn h0 u, cv_add_l, cv_assoc, cv_dl, cv0, dl_mul]
    have e0 : sh (cv u v) = fun i => u 0 * sh v i + cv (sh u) v i := rfl
    have e : cv h (co (sh (cv u v)) h) n = cv h (fun i => u 0 * co (sh v) h i + cv (co (sh u) h) (co v h) i) n := by
      rw [e0]
      refine cv_low h0 fun i hi => ?_
      rw [co_lin h0, ih i hi]
    rw [e, cv_add_r, cv_smul_r, co_eq h0 v]; grind
theorem co_0 {h : Nat → α} (h0 : h 0 = 0) (g : Nat → α) : co g h 0 = g 0 := by
  rw [co_eq h0, cv0, h0]
  show g 0 + 0 * _ = _
  grind
theorem co_co {g h : Nat → α} (g0 : g 0 = 0) (h0 : h 0 = 0) (n : Nat) : ∀ f : Nat → α, co (co f g) h n = co f (co g h) n := by
  have k0 : co g h 0 = 0 := by rw [co_0 h0, g0]
  induction n using Nat.strongRecOn with
  | ind n ih =>
    intro f
    rw [co_fn g0 f]
    have e1 : (fun n => dl (f 0) n + cv g (co (sh f) g) n) = fun n => 1 * dl (f 0) n + cv g (co (sh f) g) n := funext fun i => by grind
    rw [e1, co_lin h0, co_dl h0, co_mul h0, co_eq k0 f]
    have e2 : cv (co g h) (co (co (sh f) g) h) n = cv (co g h) (co (sh f) (co g h)) n := cv_low k0 fun i hi => ih i hi (sh f)
    rw [e2]; grind
theorem co_congr {h h' : Nat → α} (h0 : h 0 = 0) (h0' : h' 0 = 0) (n : Nat) : ∀ {u u' : Nat → α}, (∀ i, i ≤ n → u i = u' i) → (∀ i, i ≤ n → h i = h' i) → co u h n = co u' h' n := by
  induction n using Nat.strongRecOn with
  | ind n ih =>
    intro u u' e1 e2
    rw [co_eq h0, co_eq h0', e1 0 (Nat.zero_le _)]
    have e3 : cv h (co (sh u) h) n = cv h (co (sh u') h') n := cv_low h0 fun i hi => ih i hi (fun j hj => e1 (j + 1) (by omega)) (fun j hj => e2 j (by omega))
    have e4 : cv h (co (sh u') h') n = cv h' (co (sh u') h') n := cv_congr e2 (fun _ _ => rfl)
    rw [e3, e4]
theorem sh_xx : sh xx = dl (1 : α) := funext fun i => by
  show (if i + 1 = 1 then (1 : α) else 0) = if i = 0 then 1 else 0
  by_cases h : i = 0
  · subst h; rfl
  · rw [if_neg h, if_neg (by omega)]
theorem co_xx_l {h : Nat → α} (h0 : h 0 = 0) (n : Nat) : co xx h n = h n := by
  rw [co_eq h0, sh_xx]
  have e : cv h (co (dl 1) h) n = cv h (dl 1) n := cv_low h0 fun i _ => co_dl h0 1 i
  rw [e, cv_comm, cv_dl]
  have e2 : dl (xx 0 : α) n = 0 := by
    show (if n = 0 then (if 0 = 1 then (1 : α) else 0) else 0) = 0
    split <;> rfl
  rw [e2]; grind
theorem xx0 : (xx 0 : α) = 0 := rfl
theorem co_xx_r (n : Nat) : ∀ f : Nat → α, co f xx n = f n := by
  induction n with
  | zero => intro f; exact co_0 xx0 f
  | succ n ih =>
    intro f
    rw [co_eq xx0, cvs, sh_xx, cv_dl, ih (sh f), xx0]
    show (0 : α) + (0 * _ + 1 * f (n + 1)) = f (n + 1)
    grind
/-- what turns a row from the right turns it from the left, too -/
theorem turn_left {f g h : Nat → α} {N : Nat} (f0 : f 0 = 0) (g0 : g 0 = 0) (h0 : h 0 = 0) (e1 : ∀ i, i < N → co f g i = xx i) (e2 : ∀ i, i < N → co g h i = xx i) : ∀ i, i < N → co g f i = xx i := by
  have e3 : ∀ i, i < N → h i = f i := fun i hi => by
    have k0 : co g h 0 = 0 := by rw [co_0 h0, g0]
    have a1 : co (co f g) h i = h i := by
      rw [co_congr h0 h0 i (u := co f g) (u' := xx) (fun j hj => e1 j (by omega)) (fun _ _ => rfl), co_xx_l h0]
    have a2 : co (co f g) h i = f i := by
      rw [co_co g0 h0, co_congr k0 xx0 i (u := f) (u' := f) (fun _ _ => rfl) (fun j hj => e2 j (by omega)), co_xx_r]
    rw [← a1, a2]
  intro i hi
  rw [← e2 i hi]
  exact co_congr f0 h0 i (fun _ _ => rfl) (fun j hj => (e3 j (by omega)).symm)
/-! ### the row that turns -/
def T (f : Nat → α) (b : α) : Nat → Nat → α
  | 0 => fun i => if i = 1 then b else 0
  | k + 1 => fun i => if i = k + 2 then -(co f (T f b k) (k + 2)) * b else T f b k i
theorem T_s (f : Nat → α) (b : α) (k i : Nat) (h : i ≠ k + 2) : T f b (k + 1) i = T f b k i := if_neg h
theorem T_e (f : Nat → α) (b : α) (k : Nat) : T f b (k + 1) (k + 2) = -(co f (T f b k) (k + 2)) * b := if_pos rfl
theorem T_0 (f : Nat → α) (b : α) : ∀ k, T f b k 0 = 0
  | 0 => rfl
  | k + 1 => (T_s f b k 0 (by omega)).trans (T_0 f b k)
theorem T_1 (f : Nat → α) (b : α) : ∀ k, T f b k 1 = b
  | 0 => rfl
  | k + 1 => (T_s f b k 1 (by omega)).trans (T_1 f b k)
theorem T_hi (f : Nat → α) (b : α) : ∀ k i, k + 2 ≤ i → T f b k i = 0
  | 0, i, h => if_neg (by omega)
  | k + 1, i, h => (T_s f b k i (by omega)).trans (T_hi f b k i (by omega))
theorem cv_low2 {g g' Z Z' : Nat → α} {n : Nat} (g0 : g 0 = 0) (g0' : g' 0 = 0) (z0 : Z 0 = 0) (z0' : Z' 0 = 0) (e1 : ∀ i, i < n → g i = g' i) (e2 : ∀ i, i < n → Z i = Z' i) : cv g Z n = cv g' Z' n := by
  match n with
  | 0 => rw [cv0, cv0, g0, g0']; grind
  | 1 =>
    rw [cvs, cvs, cv0, cv0, g0, g0', z0, z0']; grind
  | n + 2 =>
    rw [cvs g, cvs g', g0, g0', cv_r (sh g), cv_r (sh g'), z0, z0', cv_congr (f := sh g) (f' := sh g') (g := sh Z) (g' := sh Z') (fun i hi => e1 (i + 1) (by omega)) (fun i hi => e2 (i + 1) (by omega))]
    grind
theorem co_split {f g : Nat → α} (f0 : f 0 = 0) (g0 : g 0 = 0) (n : Nat) : co f g n = g n * f 1 + cv g (cv g (co (sh (sh f)) g)) n := by
  rw [co_eq g0, co_fn g0 (sh f), cv_add_r, f0]
  have e : dl (0 : α) n = 0 := by
    unfold dl
    split <;> rfl
  have e2 : cv g (dl (sh f 0)) n = g n * f 1 := by
    rw [cv_comm, cv_dl]
    show f 1 * g n = _
    grind
  rw [e, e2]; grind
theorem co_next {f g g' : Nat → α} {n : Nat} (f0 : f 0 = 0) (g0 : g 0 = 0) (g0' : g' 0 = 0) (e : ∀ i, i < n → g i = g' i) : co f g' n = co f g n + f 1 * (g' n - g n) := by
  rw [co_split f0 g0, co_split f0 g0']
  have c1 : (cv g (co (sh (sh f)) g)) 0 = 0 := by rw [cv0, g0]; grind
  have c2 : (cv g' (co (sh (sh f)) g')) 0 = 0 := by rw [cv0, g0']; grind
  have e3 : cv g (cv g (co (sh (sh f)) g)) n = cv g' (cv g' (co (sh (sh f)) g')) n := by
    refine cv_low2 g0 g0' c1 c2 e fun i hi => ?_
    exact cv_congr (fun j hj => e j (by omega)) fun j hj => co_congr g0 g0' j (fun _ _ => rfl) (fun l hl => e l (by omega))
  rw [e3]; grind
theorem T_ok {f : Nat → α} {b : α} (f0 : f 0 = 0) (fb : f 1 * b = 1) : ∀ k i, i < k + 2 → co f (T f b k) i = xx i
  | 0, i, h => by
    match i, h with
    | 0, _ => rw [co_0 (T_0 f b 0), f0]; rfl
    | 1, _ =>
      rw [co_split f0 (T_0 f b 0), cvs, cv0, cv0, T_0, T_1]
      show b * f 1 + (0 * _ + sh _ 0 * (0 * _)) = xx 1
      have : (xx 1 : α) = 1 := rfl
      rw [this]; grind
  | k + 1, i, h => by
    by_cases hi : i < k + 2
    · rw [← T_ok f0 fb k i hi]
      exact co_congr (T_0 f b (k + 1)) (T_0 f b k) i (fun _ _ => rfl) (fun j hj => T_s f b k j (by omega))
    · have e : i = k + 2 := by omega
      subst e
      rw [co_next f0 (T_0 f b k) (T_0 f b (k + 1)) (n := k + 2) (fun j hj => (T_s f b k j (by omega)).symm), T_hi f b k (k + 2) (Nat.le_refl _)]
      have e3 : (xx (k + 2) : α) = 0 := if_neg (by omega)
      rw [T_e, e3]; grind
theorem T_left {f : Nat → α} {b c : α} (f0 : f 0 = 0) (fb : f 1 * b = 1) {k i : Nat} (h : i < k + 2) : co (T f b k) f i = xx i := by
  have g1 : T f b k 1 * f 1 = 1 := by rw [T_1]; grind
  exact turn_left f0 (T_0 f b k) (T_0 _ (f 1) k) (T_ok f0 fb k) (T_ok (T_0 f b k) g1 k) i h
/-! ### the reciprocal -/
def R (f : Nat → α) (b : α) : Nat → Nat → α
  | 0 => fun i => if i = 0 then b else 0
  | k + 1 => fun i => if i = k + 1 then -(cv (sh f) (R f b k) k) * b else R f b k i
theorem R_s (f : Nat → α) (b : α) (k i : Nat) (h : i ≠ k + 1) : R f b (k + 1) i = R f b k i := if_neg h
theorem R_e (f : Nat → α) (b : α) (k : Nat) : R f b (k + 1) (k + 1) = -(cv (sh f) (R f b k) k) * b := if_pos rfl
theorem R_0 (f : Nat → α) (b : α) : ∀ k, R f b k 0 = b
  | 0 => rfl
  | k + 1 => (R_s f b k 0 (by omega)).trans (R_0 f b k)
theorem R_ok {f : Nat → α} {b : α} (fb : f 0 * b = 1) : ∀ k i, i < k + 1 → cv f (R f b k) i = dl 1 i
  | 0, i, h => by
    have e : i = 0 := by omega
    subst e
    rw [cv0, R_0, fb]; rfl
  | k + 1, i, h => by
    by_cases hi : i < k + 1
    · rw [← R_ok fb k i hi]
      exact cv_congr (fun _ _ => rfl) (fun j hj => R_s f b k j (by omega))
    · have e : i = k + 1 := by omega
      subst e
      rw [cvs, cv_congr (f := sh f) (f' := sh f) (g := R f b (k + 1)) (g' := R f b k) (fun _ _ => rfl) (fun j hj => R_s f b k j (by omega))]
      have e3 : (dl (1 : α) (k + 1)) = 0 := if_neg (by omega)
      rw [R_e, e3]; grind
/-! ### sums, term by term -/
def sm : Nat → (Nat → α) → α
  | 0, _ => 0
  | n + 1, F => sm n F + F n
theorem sm_congr {n : Nat} {F G : Nat → α} (h : ∀ i, i < n → F i = G i) : sm n F = sm n G := by
  induction n with
  | zero => rfl
  | succ n ih => rw [sm, sm, ih (fun i hi => h i (by omega)), h n (by omega)]
theorem sm_head (n : Nat) (F : Nat → α) : sm (n + 1) F = F 0 + sm n (fun i => F (i + 1)) := by
  induction n with
  | zero => show 0 + F 0 = F 0 + 0; grind
  | succ n ih => rw [sm, ih, sm]; grind
theorem cv_sm (f g : Nat → α) (n : Nat) : cv f g n = sm (n + 1) fun i => f i * g (n - i) := by
  induction n generalizing f with
  | zero => rw [cv0]; show _ = 0 + f 0 * g 0; grind
  | succ n ih =>
    rw [cvs, sm_head, ih]
    have e : (sm (n + 1) fun i => sh f i * g (n - i)) = sm (n + 1) fun i => f (i + 1) * g (n + 1 - (i + 1)) := sm_congr fun i hi => by
      rw [show n + 1 - (i + 1) = n - i by omega]; rfl
    rw [e]; rfl
/-- powers added up -/
theorem put_eq (P g : Nat → α) (k : Nat) : ∀ (u : Nat → α) (n : Nat), cv P (C (k + 1) u g) n = u 0 * P n + cv (cv P g) (C k (sh u) g) n := fun u n => by
  show cv P (fun n => dl (u 0) n + cv g (C k (sh u) g) n) n = _
  rw [cv_add_r, ← cv_assoc]
  have e : cv P (dl (u 0)) n = u 0 * P n := by rw [cv_comm, cv_dl]
  rw [e]
end SR
set_option maxHeartbeats 2000000
/-! ### defs of grounds, as printed -/
namespace GD
open PySem PySem.Spec PL LL
abbrev N_is_ground : List Str := ["value"]
def m_is_ground : M Fl := (sRet (eAnd (eCall none D_is_whole (aCons (eVar 0) (aCons (eC (.int 0)) (aCons (eC (.int 97)) aNil)))) (eOr (e2 eqD (eVar 0) (eC (.int 0))) (e1 (inGD [2, 3, 5, 7, 11, 13, 17, 19, 23, 29, 31, 37, 41, 43, 47, 53, 59, 61, 67, 71, 73, 79, 83, 89, 97]) (eVar 0)))))
def D_is_ground : Dn := denOf N_is_ground.length false m_is_ground
abbrev N_need_ground : List Str := ["ground"]
def m_need_ground : M Fl := (sIf (tNot (tV (eCall none D_is_ground (aCons (eVar 0) aNil)))) (exc "InvalidNumber") (ret .nx))
def D_need_ground : Dn := denOf N_need_ground.length false m_need_ground
abbrev N_fits_ground : List Str := ["ground", "value"]
def m_fits_ground : M Fl := (sq (sIf (tV (e2 neD (eVar 0) (eC (.int 0)))) (sRet (eCall none D_is_whole (aCons (eVar 1) (aCons (eC (.int 0)) (aCons (e2 subD (eVar 0) (eC (.int 1))) aNil))))) (ret .nx)) (sq (sIf (tOr (tNot (tV (eCall none D_is_tuple_of (aCons (eVar 1) (aCons (eC (.int 2)) (aCons (eC (.int 2)) aNil)))))) (tOr (tNot (tV (eCall none D_is_whole (aCons (pkF 1 (eC (.int 0)) idxD) (aCons (e1 negD (eC (.int 10000000000000000000000000000000000000000))) (aCons (eC (.int 10000000000000000000000000000000000000000)) aNil)))))) (tNot (tV (eCall none D_is_whole (aCons (pkF 1 (eC (.int 1)) idxD) (aCons (eC (.int 1)) (aCons (eC (.int 10000000000000000000000000000000000000000)) aNil)))))))) (sRet (eC (.bool false))) (ret .nx)) (sRet (e2 eqD (eA gcdD (aCons (pkF 1 (eC (.int 0)) idxD) (aCons (pkF 1 (eC (.int 1)) idxD) aNil))) (eC (.int 1))))))
def D_fits_ground : Dn := denOf N_fits_ground.length false m_fits_ground
abbrev N_ratio : List Str := ["top", "bottom", "shared"]
def m_ratio : M Fl := (sq (sSet 2 (eA gcdD (aCons (eVar 0) (aCons (eVar 1) aNil)))) (sRet (eIf (tV (e2 gtD (eVar 1) (eC (.int 0)))) (eA tupD (aCons (e2 fdivD (eVar 0) (eVar 2)) (aCons (e2 fdivD (eVar 1) (eVar 2)) aNil))) (eA tupD (aCons (e2 fdivD (e1 negD (eVar 0)) (eVar 2)) (aCons (e2 fdivD (e1 negD (eVar 1)) (eVar 2)) aNil))))))
def D_ratio : Dn := denOf N_ratio.length false m_ratio
abbrev N_number_of : List Str := ["ground", "whole"]
def m_number_of : M Fl := (sRet (eIf (tV (e2 eqD (eVar 0) (eC (.int 0)))) (eA tupD (aCons (eVar 1) (aCons (eC (.int 1)) aNil))) (e2 modD (eVar 1) (eVar 0))))
def D_number_of : Dn := denOf N_number_of.length false m_number_of
abbrev N_is_nothing : List Str := ["ground", "one"]
def m_is_nothing : M Fl := (sRet (eIf (tV (e2 eqD (eVar 0) (eC (.int 0)))) (e2 eqD (pkF 1 (eC (.int 0)) idxD) (eC (.int 0))) (e2 eqD (eVar 1) (eC (.int 0)))))
def D_is_nothing : Dn := denOf N_is_nothing.length false m_is_nothing
abbrev N_sum_of : List Str := ["ground", "one", "other"]
def m_sum_of : M Fl := (sq (sIf (tV (e2 neD (eVar 0) (eC (.int 0)))) (sRet (e2 modD (e2 addD (eVar 1) (eVar 2)) (eVar 0))) (ret .nx)) (sRet (eCall none D_ratio (aCons (e2 addD (e2 mulD (pkF 1 (eC (.int 0)) idxD) (pkF 2 (eC (.int 1)) idxD)) (e2 mulD (pkF 2 (eC (.int 0)) idxD) (pkF 1 (eC (.int 1)) idxD))) (aCons (e2 mulD (pkF 1 (eC (.int 1)) idxD) (pkF 2 (eC (.int 1)) idxD)) aNil)))))
def D_sum_of : Dn := denOf N_sum_of.length false m_sum_of
abbrev N_product_of : List Str := ["ground", "one", "other"]
def m_product_of : M Fl := (sRet (eIf (tV (e2 eqD (eVar 0) (eC (.int 0)))) (eCall none D_ratio (aCons (e2 mulD (pkF 1 (eC (.int 0)) idxD) (pkF 2 (eC (.int 0)) idxD)) (aCons (e2 mulD (pkF 1 (eC (.int 1)) idxD) (pkF 2 (eC (.int 1)) idxD)) aNil))) (e2 modD (e2 mulD (eVar 1) (eVar 2)) (eVar 0))))
def D_product_of : Dn := denOf N_product_of.length false m_product_of
abbrev N_negative_of : List Str := ["ground", "one"]
def m_negative_of : M Fl := (sRet (eIf (tV (e2 eqD (eVar 0) (eC (.int 0)))) (eA tupD (aCons (e1 negD (pkF 1 (eC (.int 0)) idxD)) (aCons (pkF 1 (eC (.int 1)) idxD) aNil))) (e2 modD (e1 negD (eVar 1)) (eVar 0))))
def D_negative_of : Dn := denOf N_negative_of.length false m_negative_of
abbrev N_back_of : List Str := ["ground", "one", "other"]
def m_back_of : M Fl := (sq (sIf (tV (e2 eqD (eVar 0) (eC (.int 0)))) (sRet (eCall none D_ratio (aCons (pkF 1 (eC (.int 1)) idxD) (aCons (pkF 1 (eC (.int 0)) idxD) aNil)))) (ret .nx)) (sRet (eA minLD (aCons (frz (eLc (bnd (aCons (eC (.int 1)) (aCons (eVar 0) aNil)) rng2) (gN 2) (tV (e2 eqD (e2 modD (e2 mulD (eVar 1) (eVar 2)) (eVar 0)) (eC (.int 1)))) (eVar 2) [2])) aNil))))
def D_back_of : Dn := denOf N_back_of.length false m_back_of
abbrev N__law_divisor : List Str := ["one", "other", "turn"]
def m__law_divisor : M Fl := (sq (sFor (bnd (aCons (eC (.int 4000)) aNil) rng1) (gN 2) (sq (sIf (tV (e2 eqD (eVar 1) (eC (.int 0)))) (sRet (eVar 0)) (ret .nx)) (sPar [0, 1] (oVal (eVar 1) (oVal (e2 modD (eA intD (aCons (eVar 0) aNil)) (eVar 1)) oNil))))) (sRet (eVar 0)))
def D__law_divisor : Dn := denOf N__law_divisor.length false m__law_divisor
abbrev N__law_plain : List Str := ["top", "bottom", "shared"]
def m__law_plain : M Fl := (sq (sSet 2 (eCall none D__law_divisor (aCons (eA absD (aCons (eVar 0) aNil)) (aCons (eVar 1) aNil)))) (sRet (eA tupD (aCons (e2 fdivD (eVar 0) (eVar 2)) (aCons (e2 fdivD (eVar 1) (eVar 2)) aNil)))))
def D__law_plain : Dn := denOf N__law_plain.length false m__law_plain
abbrev N__law_add : List Str := ["ground", "one", "other"]
def m__law_add : M Fl := (sRet (eIf (tV (e2 neD (eVar 0) (eC (.int 0)))) (e2 modD (eA intD (aCons (e2 addD (eVar 1) (eVar 2)) aNil)) (eVar 0)) (eCall none D__law_plain (aCons (e2 addD (e2 mulD (pkF 1 (eC (.int 0)) idxD) (pkF 2 (eC (.int 1)) idxD)) (e2 mulD (pkF 2 (eC (.int 0)) idxD) (pkF 1 (eC (.int 1)) idxD))) (aCons (e2 mulD (pkF 1 (eC (.int 1)) idxD) (pkF 2 (eC (.int 1)) idxD)) aNil)))))
def D__law_add : Dn := denOf N__law_add.length false m__law_add
abbrev N__law_mul : List Str := ["ground", "one", "other"]
def m__law_mul : M Fl := (sRet (eIf (tV (e2 neD (eVar 0) (eC (.int 0)))) (e2 modD (eA intD (aCons (e2 mulD (eVar 1) (eVar 2)) aNil)) (eVar 0)) (eCall none D__law_plain (aCons (e2 mulD (pkF 1 (eC (.int 0)) idxD) (pkF 2 (eC (.int 0)) idxD)) (aCons (e2 mulD (pkF 1 (eC (.int 1)) idxD) (pkF 2 (eC (.int 1)) idxD)) aNil)))))
def D__law_mul : Dn := denOf N__law_mul.length false m__law_mul
abbrev N__law_whole_of : List Str := ["ground", "whole"]
def m__law_whole_of : M Fl := (sRet (eIf (tV (e2 neD (eVar 0) (eC (.int 0)))) (e2 modD (eA intD (aCons (eVar 1) aNil)) (eVar 0)) (eA tupD (aCons (eVar 1) (aCons (eC (.int 1)) aNil)))))
def D__law_whole_of : Dn := denOf N__law_whole_of.length false m__law_whole_of
abbrev N__law_is_number : List Str := ["ground", "value", "one"]
def m__law_is_number : M Fl := (sq (sIf (tV (e2 neD (eVar 0) (eC (.int 0)))) (sRet (eCall none D__law_whole (aCons (eVar 1) (aCons (eC (.int 0)) (aCons (e2 subD (eVar 0) (eC (.int 1))) aNil))))) (ret .nx)) (sq (sIf (tOr (tV (e2 neD (eCall none D__law_sort (aCons (eVar 1) aNil)) (eC (.int 4)))) (tOr (tV (e2 neD (pkF 1 (ret ()) fun d _ => lenD [d]) (eC (.int 2)))) (tV (e2 neD (frz (eLc (bnd (eVar 1) itD) (gN 2) (tV (e2 neD (eCall none D__law_sort (aCons (eVar 2) aNil)) (eC (.int 2)))) (eC (.int 1)) [2])) (eA lstD aNil))))) (sRet (eC (.bool false))) (ret .nx)) (sRet (eAnd (e2 gtD (pkF 1 (eC (.int 1)) idxD) (eC (.int 0))) (e2 eqD (eCall none D__law_divisor (aCons (eA absD (aCons (pkF 1 (eC (.int 0)) idxD) aNil)) (aCons (pkF 1 (eC (.int 1)) idxD) aNil))) (eC (.int 1)))))))
def D__law_is_number : Dn := denOf N__law_is_number.length false m__law_is_number
end GD
set_option maxHeartbeats 2000000
/-! ### what defs of grounds answer -/
namespace GD
open PySem PySem.Spec PL LL
theorem lim_eq : lim = 1000000 := rfl
def PR : List Int := [2, 3, 5, 7, 11, 13, 17, 19, 23, 29, 31, 37, 41, 43, 47, 53, 59, 61, 67, 71, 73, 79, 83, 89, 97]
abbrev v1 (d : D) (k : Int × Int) : S := ⟨[.val d], k⟩
abbrev v2 (d e : D) (k : Int × Int) : S := ⟨[.val d, .val e], k⟩
abbrev v3 (d e f : D) (k : Int × Int) : S := ⟨[.val d, .val e, .val f], k⟩
theorem is_ground (g : Int) (k : Int × Int) (h : g = 0 ∨ g ∈ PR) : D_is_ground [.int g] k = .ok (.bool true) k := by
  have hb : 0 ≤ g ∧ g ≤ 97 := by
    rcases h with rfl | h
    · decide
    · have z : ∀ x ∈ PR, 0 ≤ x ∧ x ≤ 97 := by decide
      exact z g h
  have h1 : eCall none D_is_whole (aCons (eVar 0) (aCons (eC (.int 0)) (aCons (eC (.int 97)) aNil))) (v1 (.int g) k) = .ok (.bool true) (v1 (.int g) k) := by
    refine eCall_eq (ds := [.int g, .int 0, .int 97]) (k := k) rfl ?_
    rw [is_whole]
    show Rk.ok (.bool (decide (0 ≤ g) && decide (g ≤ 97))) k = _
    rw [decide_eq_true hb.1, decide_eq_true hb.2]
    rfl
  have h2 : e2 eqD (eVar 0) (eC (.int 0)) (v1 (.int g) k) = .ok (.bool (decide (g = 0))) (v1 (.int g) k) := e2_eq (x := .int g) (y := .int 0) rfl rfl (eq_int _ _)
  have h3 : PL.e1 (inGD [2, 3, 5, 7, 11, 13, 17, 19, 23, 29, 31, 37, 41, 43, 47, 53, 59, 61, 67, 71, 73, 79, 83, 89, 97]) (eVar 0) (v1 (.int g) k) = .ok (.bool (decide (g ∈ PR))) (v1 (.int g) k) := rfl
  by_cases h0 : g = 0
  · rw [decide_eq_true h0] at h2
    exact den_rt (k := k) (s1 := v1 (.int g) k) (sRet_eq ((eAnd_t h1).trans (eOr_t h2)))
  · rw [decide_eq_false h0] at h2
    rw [decide_eq_true (h.resolve_left h0)] at h3
    exact den_rt (k := k) (s1 := v1 (.int g) k) (sRet_eq ((eAnd_t h1).trans ((eOr_f h2).trans h3)))
theorem need_ground (g : Int) (k : Int × Int) (h : g = 0 ∨ g ∈ PR) : D_need_ground [.int g] k = .ok .none k := by
  have h1 : eCall none D_is_ground (aCons (eVar 0) aNil) (v1 (.int g) k) = .ok (.bool true) (v1 (.int g) k) := eCall_eq (k := k) rfl (is_ground g k h)
  exact den_nx (k := k) ((sIf_f (tNot_eq (tV_eq h1))).trans rfl)
theorem rngL_from (lo : Int) (n : Nat) : rngL lo n = (List.range n).map fun i => PyData.int (lo + (i : Nat)) := rfl
theorem like_two (n : Nat) (i j : Int) (k : Int × Int) : L__law_like (n + 1) [.int i, .int j] k = .ok (.bool (decide (i = j))) k := by
  have h1 : e2 eqD (eVar 0) (eVar 1) (ls (.int i) (.int j) (.val (.int 2)) k) = .ok (.bool (decide (i = j))) (ls (.int i) (.int j) (.val (.int 2)) k) := e2_eq (x := .int i) (y := .int j) rfl rfl (eq_int _ _)
  exact den_rt (k := k) (like_head (L__law_like n) (.int i) (.int j) k rfl (by show (2 : Int) ≠ 6; decide) (sq_nx rfl (sRet_eq h1)))
section
variable {p : Int}
theorem pr_b (hp : p ∈ PR) : 2 ≤ p ∧ p ≤ 97 := by
  have z : ∀ x ∈ PR, 2 ≤ x ∧ x ≤ 97 := by decide
  exact z p hp
theorem ne0 (hp : p ∈ PR) (s : S) (h : eVar 0 s = .ok (.int p) s) : tV (e2 neD (eVar 0) (eC (.int 0))) s = .ok true s := by
  have hb := pr_b hp
  refine tV_eq (e2_eq (y := .int 0) h rfl ?_)
  rw [ne_int, decide_eq_false (by omega)]
  rfl
theorem eq0 (hp : p ∈ PR) (s : S) (h : eVar 0 s = .ok (.int p) s) : tV (e2 eqD (eVar 0) (eC (.int 0))) s = .ok false s := by
  have hb := pr_b hp
  refine tV_eq (e2_eq (y := .int 0) h rfl ?_)
  rw [eq_int, decide_eq_false (by omega)]
theorem mod_p (hp : p ∈ PR) (x : Int) : modD (.int x) (.int p) = some (.int (x % p)) := if_pos (by have := pr_b hp; omega)
theorem p_fits (hp : p ∈ PR) {v : Int} (h0 : 0 ≤ v) (h1 : v < p) (k : Int × Int) : D_fits_ground [.int p, .int v] k = .ok (.bool true) k := by
  have e1 : eCall none D_is_whole (aCons (eVar 1) (aCons (eC (.int 0)) (aCons (e2 subD (eVar 0) (eC (.int 1))) aNil))) (v2 (.int p) (.int v) k) = .ok (.bool true) (v2 (.int p) (.int v) k) := by
    refine eCall_eq (ds := [.int v, .int 0, .int (p - 1)]) (k := k) rfl ?_
    rw [is_whole]
    show Rk.ok (.bool (decide (0 ≤ v) && decide (v ≤ p - 1))) k = _
    rw [decide_eq_true h0, decide_eq_true (by omega)]
    rfl
  exact den_rt (k := k) (s1 := v2 (.int p) (.int v) k) (sq_rt ((sIf_t (ne0 hp _ rfl)).trans (sRet_eq e1)))
theorem p_number (hp : p ∈ PR) (w : Int) (k : Int × Int) : D_number_of [.int p, .int w] k = .ok (.int (w % p)) k := by
  have e1 : eIf (tV (e2 eqD (eVar 0) (eC (.int 0)))) (eA tupD (aCons (eVar 1) (aCons (eC (.int 1)) aNil))) (e2 modD (eVar 1) (eVar 0)) (v2 (.int p) (.int w) k) = .ok (.int (w % p)) (v2 (.int p) (.int w) k) := (eIf_f (eq0 hp _ rfl)).trans (e2_eq (x := .int w) (y := .int p) rfl rfl (mod_p hp w))
  exact den_rt (k := k) (sRet_eq e1)
theorem p_whole (hp : p ∈ PR) (w : Int) (k : Int × Int) : D__law_whole_of [.int p, .int w] k = .ok (.int (w % p)) k := by
  have e0 : eA PL.intD (aCons (eVar 1) aNil) (v2 (.int p) (.int w) k) = .ok (.int w) (v2 (.int p) (.int w) k) := rfl
  have e1 : eIf (tV (e2 neD (eVar 0) (eC (.int 0)))) (e2 modD (eA PL.intD (aCons (eVar 1) aNil)) (eVar 0)) (eA tupD (aCons (eVar 1) (aCons (eC (.int 1)) aNil))) (v2 (.int p) (.int w) k) = .ok (.int (w % p)) (v2 (.int p) (.int w) k) := (eIf_t (ne0 hp _ rfl)).trans (e2_eq (y := .int p) e0 rfl (mod_p hp w))
  exact den_rt (k := k) (sRet_eq e1)
theorem p_sum (hp : p ∈ PR) (x y : Int) (k : Int × Int) : D_sum_of [.int p, .int x, .int y] k = .ok (.int ((x + y) % p)) k := by
  have e0 : e2 addD (eVar 1) (eVar 2) (v3 (.int p) (.int x) (.int y) k) = .ok (.int (x + y)) (v3 (.int p) (.int x) (.int y) k) := rfl
  exact den_rt (k := k) (s1 := v3 (.int p) (.int x) (.int y) k) (sq_rt ((sIf_t (ne0 hp _ rfl)).trans (sRet_eq (e2_eq (mb := eVar 0) (y := .int p) e0 rfl (mod_p hp _)))))
theorem p_add (hp : p ∈ PR) (x y : Int) (k : Int × Int) : D__law_add [.int p, .int x, .int y] k = .ok (.int ((x + y) % p)) k := by
  have e0 : eA PL.intD (aCons (e2 addD (eVar 1) (eVar 2)) aNil) (v3 (.int p) (.int x) (.int y) k) = .ok (.int (x + y)) (v3 (.int p) (.int x) (.int y) k) := rfl
  exact den_rt (k := k) (s1 := v3 (.int p) (.int x) (.int y) k) (sRet_eq ((eIf_t (ne0 hp _ rfl)).trans (e2_eq (mb := eVar 0) (y := .int p) e0 rfl (mod_p hp _))))
theorem p_prod (hp : p ∈ PR) {x : Int} (hx : -1000000 ≤ x ∧ x ≤ 1000000) (y : Int) (k : Int × Int) : D_product_of [.int p, .int x, .int y] k = .ok (.int (x * y % p)) k := by
  have e0 : e2 mulD (eVar 1) (eVar 2) (v3 (.int p) (.int x) (.int y) k) = .ok (.int (x * y)) (v3 (.int p) (.int x) (.int y) k) := e2_eq (x := .int x) (y := .int y) rfl rfl (mul_l hx _)
  have e1 : eIf (tV (e2 eqD (eVar 0) (eC (.int 0)))) (eCall none D_ratio (aCons (e2 mulD (pkF 1 (eC (.int 0)) idxD) (pkF 2 (eC (.int 0)) idxD)) (aCons (e2 mulD (pkF 1 (eC (.int 1)) idxD) (pkF 2 (eC (.int 1)) idxD)) aNil))) (e2 modD (e2 mulD (eVar 1) (eVar 2)) (eVar 0)) (v3 (.int p) (.int x) (.int y) k) = .ok (.int (x * y % p)) (v3 (.int p) (.int x) (.int y) k) := (eIf_f (eq0 hp _ rfl)).trans (e2_eq (y := .int p) e0 rfl (mod_p hp _))
  exact den_rt (k := k) (sRet_eq e1)
theorem p_mul (hp : p ∈ PR) {x : Int} (hx : -1000000 ≤ x ∧ x ≤ 1000000) (y : Int) (k : Int × Int) : D__law_mul [.int p, .int x, .int y] k = .ok (.int (x * y % p)) k := by
  have e0 : e2 mulD (eVar 1) (eVar 2) (v3 (.int p) (.int x) (.int y) k) = .ok (.int (x * y)) (v3 (.int p) (.int x) (.int y) k) := e2_eq (x := .int x) (y := .int y) rfl rfl (mul_l hx _)
  have e1 : eIf (tV (e2 neD (eVar 0) (eC (.int 0)))) (e2 modD (eA PL.intD (aCons (e2 mulD (eVar 1) (eVar 2)) aNil)) (eVar 0)) (eCall none D__law_plain (aCons (e2 mulD (pkF 1 (eC (.int 0)) idxD) (pkF 2 (eC (.int 0)) idxD)) (aCons (e2 mulD (pkF 1 (eC (.int 1)) idxD) (pkF 2 (eC (.int 1)) idxD)) aNil))) (v3 (.int p) (.int x) (.int y) k) = .ok (.int (x * y % p)) (v3 (.int p) (.int x) (.int y) k) := (eIf_t (ne0 hp _ rfl)).trans (e2_eq (y := .int p) (eA1_eq e0 rfl) rfl (mod_p hp _))
  exact den_rt (k := k) (sRet_eq e1)
theorem p_neg (hp : p ∈ PR) (x : Int) (k : Int × Int) : D_negative_of [.int p, .int x] k = .ok (.int (-x % p)) k := by
  have e0 : PL.e1 negD (eVar 1) (v2 (.int p) (.int x) k) = .ok (.int (-x)) (v2 (.int p) (.int x) k) := rfl
  have e1 : eIf (tV (e2 eqD (eVar 0) (eC (.int 0)))) (eA tupD (aCons (PL.e1 negD (pkF 1 (eC (.int 0)) idxD)) (aCons (pkF 1 (eC (.int 1)) idxD) aNil))) (e2 modD (PL.e1 negD (eVar 1)) (eVar 0)) (v2 (.int p) (.int x) k) = .ok (.int (-x % p)) (v2 (.int p) (.int x) k) := (eIf_f (eq0 hp _ rfl)).trans (e2_eq (y := .int p) e0 rfl (mod_p hp _))
  exact den_rt (k := k) (sRet_eq e1)
theorem p_nothing (hp : p ∈ PR) (x : Int) (k : Int × Int) : D_is_nothing [.int p, .int x] k = .ok (.bool (decide (x = 0))) k := by
  have e1 : eIf (tV (e2 eqD (eVar 0) (eC (.int 0)))) (e2 eqD (pkF 1 (eC (.int 0)) idxD) (eC (.int 0))) (e2 eqD (eVar 1) (eC (.int 0))) (v2 (.int p) (.int x) k) = .ok (.bool (decide (x = 0))) (v2 (.int p) (.int x) k) := (eIf_f (eq0 hp _ rfl)).trans (e2_eq (x := .int x) (y := .int 0) rfl rfl (eq_int _ _))
  exact den_rt (k := k) (sRet_eq e1)
theorem inv_all : PR.all (fun p => (List.range p.toNat).all fun v => v == 0 || (List.range (p - 1).toNat).any fun i => decide ((v : Int) * (1 + (i : Int)) % p = 1)) = true := by decide +kernel
theorem inv_ex (hp : p ∈ PR) {v : Int} (h0 : 1 ≤ v) (h1 : v < p) : ∃ i : Nat, i < (p - 1).toNat ∧ v * (1 + (i : Int)) % p = 1 := by
  have z := List.all_eq_true.mp (List.all_eq_true.mp inv_all p hp) v.toNat (List.mem_range.mpr (by omega))
  rw [Bool.or_eq_true] at z
  rcases z with z | z
  · have z2 := eq_of_beq z
    omega
  · obtain ⟨i, hi, e⟩ := List.any_eq_true.mp z
    rw [decide_eq_true_eq, Int.toNat_of_nonneg (by omega)] at e
    exact ⟨i, List.mem_range.mp hi, e⟩
theorem min_zs (n : Int) (ns : List Int) : minLD [.list (zs (n :: ns))] = some (.int (foldMin n ns)) := by
  unfold minLD
  dsimp only
  rw [asInts_zs]
abbrev bo (p v : Int) (o : Sl) (k : Int × Int) : S := ⟨[.val (.int p), .val (.int v), o], k⟩
theorem p_back (hp : p ∈ PR) {v : Int} (h0 : 1 ≤ v) (h1 : v < p) (k : Int × Int) : ∃ m, (∀ k, D_back_of [.int p, .int v] k = .ok (.int m) k) ∧ 1 ≤ m ∧ m < p ∧ v * m % p = 1 := by
  have hb := pr_b hp
  obtain ⟨i, hi, he⟩ := inv_ex hp h0 h1
  obtain ⟨L, hL⟩ : ∃ L, ((List.range (p - 1).toNat).filter fun i : Nat => decide (v * (1 + (i : Int)) % p = 1)).map (fun i : Nat => 1 + (i : Int)) = L := ⟨_, rfl⟩
  have hmem : ∀ x ∈ L, 1 ≤ x ∧ x < p ∧ v * x % p = 1 := fun x hx => by
    rw [← hL] at hx
    obtain ⟨j, hj, rfl⟩ := List.mem_map.mp hx
    obtain ⟨hj1, hj2⟩ := List.mem_filter.mp hj
    have hj1 := List.mem_range.mp hj1
    exact ⟨by omega, by omega, of_decide_eq_true hj2⟩
  have hin : 1 + (i : Int) ∈ L := by
    rw [← hL]
    exact List.mem_map.mpr ⟨i, List.mem_filter.mpr ⟨List.mem_range.mpr hi, decide_eq_true he⟩, rfl⟩
  cases L with
  | nil => cases hin
  | cons n ns =>
    obtain ⟨f1, f2, f3⟩ := foldMin_spec ns n
    have hm : foldMin n ns ∈ n :: ns := by
      rcases f1 with f1 | f1
      · rw [f1]
        exact List.mem_cons_self
      · exact List.mem_cons_of_mem _ f1
    obtain ⟨m1, m2, m3⟩ := hmem _ hm
    refine ⟨foldMin n ns, fun k => ?_, m1, m2, m3⟩
    have q1 : eLc (bnd (aCons (eC (.int 1)) (aCons (eVar 0) aNil)) rng2) (gN 2) (tV (e2 eqD (e2 modD (e2 mulD (eVar 1) (eVar 2)) (eVar 0)) (eC (.int 1)))) (eVar 2) [2] (bo p v .un k) = .ok (zs (n :: ns)) (bo p v .un k) := by
      have hsrc : bnd (aCons (eC (.int 1)) (aCons (eVar 0) aNil)) rng2 (bo p v .un k) = .ok ((List.range (p - 1).toNat).map fun i => PyData.int (1 + (i : Nat))) (bo p v .un k) := by
        rw [← rngL_from]
        exact src_eq (aCons_eq (d := .int 1) rfl (aCons_eq (d := .int p) rfl rfl)) (rng2_int (by decide) (by omega) (by decide) (by omega) _)
      have z := eLc_pick (α := Nat) (e := fun i => PyData.int (1 + (i : Nat))) (p := fun i : Nat => decide (v * (1 + (i : Int)) % p = 1)) (fun i => PyData.int (1 + (i : Nat))) (asg := gN 2) (tst := tV (e2 eqD (e2 modD (e2 mulD (eVar 1) (eVar 2)) (eVar 0)) (eC (.int 1)))) (elt := eVar 2) (vs := [2]) (r0 := (bo p v .un k).r) (r2 := (bo p v .un k).r) hsrc (by rw [List.length_range, lim_eq]; omega) rfl rfl fun j hj => by
        refine ⟨[.val (.int p), .val (.int v), .val (.int (1 + (j : Nat)))], ?_, fun _ => ⟨_, rfl, rfl⟩, fun _ => rfl⟩
        exact asg_eq gN_eq (tV_eq (e2_eq (y := .int 1) (e2_eq (x := .int (v * (1 + (j : Int)))) (y := .int p) (e2_eq (x := .int v) (y := .int (1 + (j : Nat))) rfl rfl (mul_l (by omega) _)) rfl (mod_p hp _)) rfl (eq_int _ _)))
      rw [← hL]
      unfold zs
      rw [List.map_map]
      exact z
    have e2' := eA1_eq (frz_eq q1) (min_zs n ns)
    exact den_rt (k := k) (s1 := bo p v .un k) (sq_nx ((sIf_f (eq0 hp _ rfl)).trans rfl) (sRet_eq e2'))
end
abbrev fr (a b : Int) : D := .tuple [.int a, .int b]
/-- the greatest number that is met -/
def BN : Nat := 2 ^ 1990
theorem log_BN {n : Nat} (h : n < BN) : n.log2 < 9000 := by
  by_cases h0 : n = 0
  · rw [h0]
    decide
  · refine (Nat.log2_lt h0).mpr (Nat.lt_of_lt_of_le h ?_)
    exact Nat.pow_le_pow_right (by decide) (by decide)
theorem log_BN2 {n : Nat} (h : n < BN) : n.log2 < 1991 := by
  by_cases h0 : n = 0
  · rw [h0]
    decide
  · refine (Nat.log2_lt h0).mpr (Nat.lt_of_lt_of_le h ?_)
    exact Nat.pow_le_pow_right (by decide) (by decide)
theorem fdiv_pos (i : Int) {j : Int} (h : 0 < j) (h2 : j.natAbs < BN) : fdivD (.int i) (.int j) = some (.int (i / j)) := if_pos ⟨h, log_BN h2⟩
theorem fdiv_neg (i : Int) {j : Int} (h : j < 0) (h2 : j.natAbs < BN) : fdivD (.int i) (.int j) = some (.int (i.fdiv j)) := (if_neg (fun z => by omega)).trans (if_pos ⟨h, log_BN h2⟩)
theorem mul_big {i j : Int} (hi : i.natAbs < BN) (hj : j.natAbs < BN) : mulD (.int i) (.int j) = some (.int (i * j)) := by
  have h1 := log_BN2 hi
  have h2 := log_BN2 hj
  show (if (w64 i || w64 j || decide (i.natAbs.log2 + j.natAbs.log2 < 1000000)) = true then some (PyData.int (i * j)) else none) = _
  rw [decide_eq_true (show i.natAbs.log2 + j.natAbs.log2 < 1000000 by omega), Bool.or_true]
  rfl
/-! ### the greatest common divisor by steps -/
def eu : Nat → Nat × Nat → Nat × Nat
  | 0, s => s
  | n + 1, s => eu n (s.2, s.1 % s.2)
theorem eu_succ : ∀ (n : Nat) (s : Nat × Nat), eu (n + 1) s = ((eu n s).2, (eu n s).1 % (eu n s).2)
  | 0, _ => rfl
  | n + 1, s => eu_succ n (s.2, s.1 % s.2)
theorem eu_gcd : ∀ (n : Nat) (s : Nat × Nat), Nat.gcd (eu n s).1 (eu n s).2 = Nat.gcd s.1 s.2
  | 0, _ => rfl
  | n + 1, s => by
    show Nat.gcd (eu n (s.2, s.1 % s.2)).1 (eu n (s.2, s.1 % s.2)).2 = _
    rw [eu_gcd n]
    show Nat.gcd s.2 (s.1 % s.2) = _
    rw [Nat.gcd_comm s.2, ← Nat.gcd_rec, Nat.gcd_comm]
theorem eu_end : ∀ (L x y : Nat), y < 2 ^ L → ∃ n, n ≤ 2 * L ∧ (eu n (x, y)).2 = 0 ∧ ∀ j, j < n → (eu j (x, y)).2 ≠ 0
  | 0, x, y, h => ⟨0, by omega, by show y = 0; rw [Nat.pow_zero] at h; omega, fun j hj => absurd hj (by omega)⟩
  | L + 1, x, y, h => by
    by_cases h0 : y = 0
    · exact ⟨0, by omega, h0, fun j hj => absurd hj (by omega)⟩
    · have hr := Nat.mod_lt x (Nat.pos_of_ne_zero h0)
      by_cases h1 : x % y = 0
      · refine ⟨1, by omega, h1, fun j hj => ?_⟩
        have e : j = 0 := by omega
        rw [e]
        exact h0
      · have hr2 := Nat.mod_lt y (Nat.pos_of_ne_zero h1)
        have hlt : y % (x % y) < 2 ^ L := by
          have e := Nat.div_add_mod y (x % y)
          have hd : 1 ≤ y / (x % y) := Nat.div_pos (Nat.le_of_lt hr) (Nat.pos_of_ne_zero h1)
          have hm : x % y ≤ (x % y) * (y / (x % y)) := Nat.le_mul_of_pos_right _ hd
          rw [Nat.pow_succ] at h
          omega
        obtain ⟨n, n1, n2, n3⟩ := eu_end L (x % y) (y % (x % y)) hlt
        refine ⟨n + 2, by omega, n2, fun j hj => ?_⟩
        match j with
        | 0 => exact h0
        | 1 => exact h1
        | j + 2 => exact n3 j (by omega)
abbrev dv (x y : Nat) (t : Sl) (k : Int × Int) : S := ⟨[.val (.int (x : Nat)), .val (.int (y : Nat)), t], k⟩
theorem divisor (x y : Nat) (hy : y < BN) (k : Int × Int) : D__law_divisor [.int (x : Nat), .int (y : Nat)] k = .ok (.int (Nat.gcd x y : Nat)) k := by
  obtain ⟨n, n1, n2, n3⟩ := eu_end 1990 x y hy
  have hn : n < 4000 := by omega
  have h1 : ∀ (s : Nat × Nat) (t : Sl), tV (e2 eqD (eVar 1) (eC (.int 0))) (dv s.1 s.2 t k) = .ok (decide (s.2 = 0)) (dv s.1 s.2 t k) := fun s t => by
    refine tV_eq (e2_eq (x := .int (s.2 : Nat)) (y := .int 0) rfl rfl ?_)
    rw [eq_int]
    congr 2
    rw [decide_eq_decide]
    omega
  have hl : forL (gN 2) (sq (sIf (tV (e2 eqD (eVar 1) (eC (.int 0)))) (sRet (eVar 0)) (PL.ret .nx)) (sPar [0, 1] (oVal (eVar 1) (oVal (e2 modD (eA PL.intD (aCons (eVar 0) aNil)) (eVar 1)) oNil)))) (rngL 0 4000) (dv x y .un k) = .ok (.rt (.int (Nat.gcd x y : Nat))) (dv (Nat.gcd x y) 0 (.val (.int (n : Nat))) k) := by
    refine forL_ret (J := fun i s => ∃ t, s = dv (eu i (x, y)).1 (eu i (x, y)).2 t k) n (rngL 0 4000) 0 _ (.int (n : Nat)) (by simp [rngL, hn]) ⟨.un, rfl⟩ ?_ ?_
    · rintro j d s hj hd ⟨t, rfl⟩
      rw [Nat.zero_add]
      have z := h1 (eu j (x, y)) (.val d)
      rw [decide_eq_false (n3 j hj)] at z
      have hm : modD (.int ((eu j (x, y)).1 : Nat)) (.int ((eu j (x, y)).2 : Nat)) = some (.int (((eu j (x, y)).1 % (eu j (x, y)).2 : Nat) : Int)) := by
        have p := n3 j hj
        rw [Int.natCast_emod]
        exact if_pos (by omega)
      have g0 : e2 modD (eA PL.intD (aCons (eVar 0) aNil)) (eVar 1) (dv (eu j (x, y)).1 (eu j (x, y)).2 (.val d) k) = .ok (.int (((eu j (x, y)).1 % (eu j (x, y)).2 : Nat) : Int)) (dv (eu j (x, y)).1 (eu j (x, y)).2 (.val d) k) := e2_eq (x := .int ((eu j (x, y)).1 : Nat)) (y := .int ((eu j (x, y)).2 : Nat)) rfl rfl hm
      have g1 : sPar [0, 1] (oVal (eVar 1) (oVal (e2 modD (eA PL.intD (aCons (eVar 0) aNil)) (eVar 1)) oNil)) (dv (eu j (x, y)).1 (eu j (x, y)).2 (.val d) k) = .ok .nx (dv (eu j (x, y)).2 ((eu j (x, y)).1 % (eu j (x, y)).2) (.val d) k) := by
        refine src_eq (a := [.val (.int ((eu j (x, y)).2 : Nat)), .val (.int (((eu j (x, y)).1 % (eu j (x, y)).2 : Nat) : Int))]) (s1 := dv (eu j (x, y)).1 (eu j (x, y)).2 (.val d) k) ?_ rfl
        exact src_eq (a := .int ((eu j (x, y)).2 : Nat)) rfl (src_eq (src_eq g0 rfl) rfl)
      refine ⟨_, asg_eq gN_eq (sq_nx ((sIf_f z).trans rfl) g1), .val d, ?_⟩
      rw [eu_succ]
    · rintro s ⟨t, rfl⟩
      rw [Nat.zero_add]
      have z := h1 (eu n (x, y)) (.val (.int (n : Nat)))
      rw [decide_eq_true n2] at z
      have e := eu_gcd n (x, y)
      rw [n2, Nat.gcd_zero_right] at e
      rw [e, n2] at z ⊢
      exact asg_eq gN_eq (sq_rt ((sIf_t z).trans (sRet_eq rfl)))
  have h3 := sFor_eq (src := bnd (aCons (eC (.int 4000)) aNil) rng1) (s := dv x y .un k) (src_eq (a := [.int 4000]) (s1 := dv x y .un k) rfl rfl) hl
  exact den_rt (k := k) (sq_rt h3)
/-! ### lowest terms -/
def gg (t b : Int) : Int := (Nat.gcd t.natAbs b.natAbs : Nat)
def rt (t b : Int) : Int := if 0 < b then t / gg t b else -t / gg t b
def rb (t b : Int) : Int := if 0 < b then b / gg t b else -b / gg t b
section
variable {t b : Int}
theorem gg_pos (hb : b ≠ 0) : 0 < gg t b := by
  have z := Nat.gcd_pos_of_pos_right t.natAbs (n := b.natAbs) (by omega)
  unfold gg
  omega
theorem gg_le (hb : b ≠ 0) : (gg t b).natAbs ≤ b.natAbs := by
  have z := Nat.gcd_le_right t.natAbs (n := b.natAbs) (by omega)
  unfold gg
  omega
theorem gg_t : gg t b ∣ t := Int.natAbs_dvd_natAbs.mp (by unfold gg; rw [Int.natAbs_natCast]; exact Nat.gcd_dvd_left ..)
theorem gg_b : gg t b ∣ b := Int.natAbs_dvd_natAbs.mp (by unfold gg; rw [Int.natAbs_natCast]; exact Nat.gcd_dvd_right ..)
theorem ratio (hb : b ≠ 0) (h : b.natAbs < BN) (k : Int × Int) : D_ratio [.int t, .int b] k = .ok (fr (rt t b) (rb t b)) k := by
  have gp := gg_pos (t := t) hb
  have gl := gg_le (t := t) hb
  have s1 := sSet_eq (i := 2) (s := ⟨[.val (.int t), .val (.int b), .un], k⟩) (m := eA gcdD (aCons (eVar 0) (aCons (eVar 1) aNil))) (d := .int (gg t b)) (s1 := ⟨[.val (.int t), .val (.int b), .un], k⟩) rfl
  have e1 : tV (e2 gtD (eVar 1) (eC (.int 0))) (v3 (.int t) (.int b) (.int (gg t b)) k) = .ok (decide (0 < b)) (v3 (.int t) (.int b) (.int (gg t b)) k) := rfl
  have e2' : eIf (tV (e2 gtD (eVar 1) (eC (.int 0)))) (eA tupD (aCons (e2 fdivD (eVar 0) (eVar 2)) (aCons (e2 fdivD (eVar 1) (eVar 2)) aNil))) (eA tupD (aCons (e2 fdivD (PL.e1 negD (eVar 0)) (eVar 2)) (aCons (e2 fdivD (PL.e1 negD (eVar 1)) (eVar 2)) aNil))) (v3 (.int t) (.int b) (.int (gg t b)) k) = .ok (fr (rt t b) (rb t b)) (v3 (.int t) (.int b) (.int (gg t b)) k) := by
    unfold rt rb
    by_cases h0 : 0 < b
    · rw [decide_eq_true h0] at e1
      rw [if_pos h0, if_pos h0]
      exact (eIf_t e1).trans (eA_eq (aCons_eq (e2_eq (x := .int t) (y := .int (gg t b)) rfl rfl (fdiv_pos _ gp (by omega))) (aCons_eq (e2_eq (x := .int b) (y := .int (gg t b)) rfl rfl (fdiv_pos _ gp (by omega))) rfl)) rfl)
    · rw [decide_eq_false h0] at e1
      rw [if_neg h0, if_neg h0]
      exact (eIf_f e1).trans (eA_eq (aCons_eq (e2_eq (x := .int (-t)) (y := .int (gg t b)) rfl rfl (fdiv_pos _ gp (by omega))) (aCons_eq (e2_eq (x := .int (-b)) (y := .int (gg t b)) rfl rfl (fdiv_pos _ gp (by omega))) rfl)) rfl)
  exact den_rt (k := k) (sq_nx s1 (sRet_eq e2'))
theorem abs_nat (x : Int) : absD [.int x] = some (.int (x.natAbs : Nat)) := by
  show some (PyData.int (if x < 0 then -x else x)) = _
  congr 2
  split <;> omega
theorem plain (hb : 0 < b) (h : b.natAbs < BN) (k : Int × Int) : D__law_plain [.int t, .int b] k = .ok (fr (rt t b) (rb t b)) k := by
  have gp := gg_pos (t := t) (b := b) (by omega)
  have gl := gg_le (t := t) (b := b) (by omega)
  have eb : ((b.natAbs : Nat) : Int) = b := by omega
  have dv := divisor t.natAbs b.natAbs h k
  rw [eb] at dv
  have s1 := sSet_eq (i := 2) (eCall_eq (s := ⟨[.val (.int t), .val (.int b), .un], k⟩) (k := k) (aCons_eq (m := eA absD (aCons (eVar 0) aNil)) (eA1_eq (d := .int t) rfl (abs_nat t)) (aCons_eq (m := eVar 1) (d := .int b) (q := aNil) (ds := []) rfl rfl)) dv)
  unfold rt rb
  rw [if_pos hb, if_pos hb]
  have e3 : eA tupD (aCons (e2 fdivD (eVar 0) (eVar 2)) (aCons (e2 fdivD (eVar 1) (eVar 2)) aNil)) (v3 (.int t) (.int b) (.int (gg t b)) k) = .ok (fr (t / gg t b) (b / gg t b)) (v3 (.int t) (.int b) (.int (gg t b)) k) := eA_eq (aCons_eq (e2_eq (x := .int t) (y := .int (gg t b)) rfl rfl (fdiv_pos _ gp (by omega))) (aCons_eq (e2_eq (x := .int b) (y := .int (gg t b)) rfl rfl (fdiv_pos _ gp (by omega))) rfl)) rfl
  exact den_rt (k := k) (sq_nx s1 (sRet_eq e3))
theorem gg_neg : gg (-t) (-b) = gg t b := by
  unfold gg
  rw [Int.natAbs_neg, Int.natAbs_neg]
theorem rb_pos (hb : b ≠ 0) : 1 ≤ rb t b := by
  have gp := gg_pos (t := t) hb
  have gl := gg_le (t := t) hb
  unfold rb
  by_cases h0 : 0 < b
  · rw [if_pos h0]
    exact (Int.le_ediv_iff_mul_le gp).mpr (by omega)
  · rw [if_neg h0]
    exact (Int.le_ediv_iff_mul_le gp).mpr (by omega)
theorem div_abs {x g : Int} (hg : 0 < g) (h : g ∣ x) : (x / g).natAbs ≤ x.natAbs := by
  obtain ⟨q, rfl⟩ := h
  rw [Int.mul_ediv_cancel_left _ (by omega), Int.natAbs_mul]
  exact Nat.le_mul_of_pos_left _ (by omega)
theorem rt_le (hb : b ≠ 0) : (rt t b).natAbs ≤ t.natAbs := by
  have gp := gg_pos (t := t) hb
  unfold rt
  split
  · exact div_abs gp gg_t
  · have z := div_abs gp (Int.dvd_neg.mpr (gg_t (t := t) (b := b)))
    rw [Int.natAbs_neg] at z
    exact z
theorem rb_le (hb : b ≠ 0) : (rb t b).natAbs ≤ b.natAbs := by
  have gp := gg_pos (t := t) hb
  unfold rb
  split
  · exact div_abs gp gg_b
  · have z := div_abs gp (Int.dvd_neg.mpr (gg_b (t := t) (b := b)))
    rw [Int.natAbs_neg] at z
    exact z
theorem gcd_div {x y : Int} (hy : y ≠ 0) : Nat.gcd (x / gg x y).natAbs (y / gg x y).natAbs = 1 := by
  have gp := gg_pos (t := x) hy
  have e1 := Int.mul_ediv_cancel' (gg_t (t := x) (b := y))
  have e2' := Int.mul_ediv_cancel' (gg_b (t := x) (b := y))
  obtain ⟨u, hu⟩ : ∃ u, x / gg x y = u := ⟨_, rfl⟩
  obtain ⟨v, hv⟩ : ∃ v, y / gg x y = v := ⟨_, rfl⟩
  rw [hu] at e1 ⊢
  rw [hv] at e2' ⊢
  have hg : (gg x y).natAbs = Nat.gcd x.natAbs y.natAbs := by
    unfold gg
    rw [Int.natAbs_natCast]
  have e3 : Nat.gcd x.natAbs y.natAbs = Nat.gcd x.natAbs y.natAbs * Nat.gcd u.natAbs v.natAbs := by
    have z : Nat.gcd x.natAbs y.natAbs = Nat.gcd ((gg x y).natAbs * u.natAbs) ((gg x y).natAbs * v.natAbs) := by
      rw [← Int.natAbs_mul, ← Int.natAbs_mul, e1, e2']
    rw [Nat.gcd_mul_left, hg] at z
    exact z
  have hp : 0 < Nat.gcd x.natAbs y.natAbs := by omega
  exact Nat.eq_of_mul_eq_mul_left hp (by rw [← e3, Nat.mul_one])
theorem gcd_low (hb : b ≠ 0) : Nat.gcd (rt t b).natAbs (rb t b).natAbs = 1 := by
  unfold rt rb
  split
  · exact gcd_div hb
  · have z := gcd_div (x := -t) (y := -b) (by omega)
    rw [gg_neg] at z
    exact z
theorem low_rt (hb : 0 < b) (h : Nat.gcd t.natAbs b.natAbs = 1) : rt t b = t ∧ rb t b = b := by
  have e : gg t b = 1 := by
    unfold gg
    rw [h]
    rfl
  unfold rt rb
  rw [if_pos hb, if_pos hb, e, Int.ediv_one, Int.ediv_one]
  exact ⟨rfl, rfl⟩
theorem low_neg (hb : b < 0) (h : Nat.gcd t.natAbs b.natAbs = 1) : rt t b = -t ∧ rb t b = -b := by
  have e : gg t b = 1 := by
    unfold gg
    rw [h]
    rfl
  unfold rt rb
  rw [if_neg (by omega), if_neg (by omega), e, Int.ediv_one, Int.ediv_one]
  exact ⟨rfl, rfl⟩
theorem low_same {n : Int} (hn : 0 < n) : rt n n = 1 ∧ rb n n = 1 := by
  have e : gg n n = n := by
    unfold gg
    rw [Nat.gcd_self]
    omega
  unfold rt rb
  rw [if_pos hn, e, Int.ediv_self (by omega)]
  exact ⟨rfl, rfl⟩
theorem low_zero {n : Int} (hn : 0 < n) : rt 0 n = 0 ∧ rb 0 n = 1 := by
  have e : gg 0 n = n := by
    unfold gg
    rw [show (0 : Int).natAbs = 0 from rfl, Nat.gcd_zero_left]
    omega
  unfold rt rb
  rw [if_pos hn, if_pos hn, e, Int.ediv_self (by omega), Int.zero_ediv]
  exact ⟨rfl, rfl⟩
end
section
variable {a b c d : Int}
/-- top and bottom of a sum -/
theorem z_sum2 (na : a.natAbs < BN) (nb : b.natAbs < BN) (nc : c.natAbs < BN) (nd : d.natAbs < BN) (hbd : 0 < b * d) (hB : (b * d).natAbs < BN) (k : Int × Int) : D_sum_of [.int 0, fr a b, fr c d] k = .ok (fr (rt (a * d + c * b) (b * d)) (rb (a * d + c * b) (b * d))) k ∧ D__law_add [.int 0, fr a b, fr c d] k = .ok (fr (rt (a * d + c * b) (b * d)) (rb (a * d + c * b) (b * d))) k := by
  have e0 : tV (e2 neD (eVar 0) (eC (.int 0))) (v3 (.int 0) (fr a b) (fr c d) k) = .ok false (v3 (.int 0) (fr a b) (fr c d) k) := rfl
  have e1 : e2 addD (e2 mulD (pkF 1 (eC (.int 0)) idxD) (pkF 2 (eC (.int 1)) idxD)) (e2 mulD (pkF 2 (eC (.int 0)) idxD) (pkF 1 (eC (.int 1)) idxD)) (v3 (.int 0) (fr a b) (fr c d) k) = .ok (.int (a * d + c * b)) (v3 (.int 0) (fr a b) (fr c d) k) := e2_eq (e2_eq (x := .int a) (y := .int d) rfl rfl (mul_big na nd)) (e2_eq (x := .int c) (y := .int b) rfl rfl (mul_big nc nb)) rfl
  have e2' : e2 mulD (pkF 1 (eC (.int 1)) idxD) (pkF 2 (eC (.int 1)) idxD) (v3 (.int 0) (fr a b) (fr c d) k) = .ok (.int (b * d)) (v3 (.int 0) (fr a b) (fr c d) k) := e2_eq (x := .int b) (y := .int d) rfl rfl (mul_big nb nd)
  have e3 := aCons_eq e1 (aCons_eq (q := aNil) (ds := []) e2' rfl)
  refine ⟨den_rt (k := k) (sq_nx ((sIf_f e0).trans rfl) (sRet_eq (eCall_eq (k := k) e3 (ratio (by omega) hB k)))), ?_⟩
  have e5 := (eIf_f (ma := e2 modD (eA PL.intD (aCons (e2 addD (eVar 1) (eVar 2)) aNil)) (eVar 0)) e0).trans (eCall_eq (k := k) e3 (plain hbd hB k))
  exact den_rt (k := k) (sRet_eq e5)
theorem z_prod2 (na : a.natAbs < BN) (nb : b.natAbs < BN) (nc : c.natAbs < BN) (nd : d.natAbs < BN) (hbd : 0 < b * d) (hB : (b * d).natAbs < BN) (k : Int × Int) : D_product_of [.int 0, fr a b, fr c d] k = .ok (fr (rt (a * c) (b * d)) (rb (a * c) (b * d))) k ∧ D__law_mul [.int 0, fr a b, fr c d] k = .ok (fr (rt (a * c) (b * d)) (rb (a * c) (b * d))) k := by
  have e0 : tV (e2 neD (eVar 0) (eC (.int 0))) (v3 (.int 0) (fr a b) (fr c d) k) = .ok false (v3 (.int 0) (fr a b) (fr c d) k) := rfl
  have e0' : tV (e2 eqD (eVar 0) (eC (.int 0))) (v3 (.int 0) (fr a b) (fr c d) k) = .ok true (v3 (.int 0) (fr a b) (fr c d) k) := rfl
  have e1 : e2 mulD (pkF 1 (eC (.int 0)) idxD) (pkF 2 (eC (.int 0)) idxD) (v3 (.int 0) (fr a b) (fr c d) k) = .ok (.int (a * c)) (v3 (.int 0) (fr a b) (fr c d) k) := e2_eq (x := .int a) (y := .int c) rfl rfl (mul_big na nc)
  have e2' : e2 mulD (pkF 1 (eC (.int 1)) idxD) (pkF 2 (eC (.int 1)) idxD) (v3 (.int 0) (fr a b) (fr c d) k) = .ok (.int (b * d)) (v3 (.int 0) (fr a b) (fr c d) k) := e2_eq (x := .int b) (y := .int d) rfl rfl (mul_big nb nd)
  have e3 := aCons_eq e1 (aCons_eq (q := aNil) (ds := []) e2' rfl)
  have e4 := (eIf_t (mb := e2 modD (e2 mulD (eVar 1) (eVar 2)) (eVar 0)) e0').trans (eCall_eq (k := k) e3 (ratio (by omega) hB k))
  have e5 := (eIf_f (ma := e2 modD (eA PL.intD (aCons (e2 mulD (eVar 1) (eVar 2)) aNil)) (eVar 0)) e0).trans (eCall_eq (k := k) e3 (plain hbd hB k))
  exact ⟨den_rt (k := k) (sRet_eq e4), den_rt (k := k) (sRet_eq e5)⟩
end
end GD
set_option maxHeartbeats 2000000
/-! ### a ground as a ring -/
namespace GD
open PySem PySem.Spec PL LL Lean.Grind
structure Gr (α : Type) [CommRing α] [DecidableEq α] (g : Int) where
  em : α → D
  Wt : Nat → Nat → α → Prop
  Sl : α → Prop
  hg : g = 0 ∨ g ∈ PR
  w_zero : Wt 0 0 0
  w_one : Wt 0 0 1
  w_mono : ∀ {w w' m m' a}, w ≤ w' → m ≤ m' → Wt w m a → Wt w' m' a
  w_add : ∀ {w m a b}, Wt w m a → Wt w m b → Wt w (m + 1) (a + b)
  w_mul : ∀ {w w' m m' a b}, Wt w m a → Wt w' m' b → Wt (w + w') (m + m') (a * b)
  w_neg : ∀ {w m a}, Wt w m a → Wt w m (-a)
  w_sl : ∀ {a}, Sl a → Wt 1 2 a
  sl0 : Sl 0
  sl1 : Sl 1
  sum : ∀ {a b}, Wt 300 1000 a → Wt 300 1000 b → ∀ k, D_sum_of [.int g, em a, em b] k = .ok (em (a + b)) k
  add : ∀ {a b}, Wt 300 1000 a → Wt 300 1000 b → ∀ k, D__law_add [.int g, em a, em b] k = .ok (em (a + b)) k
  prod : ∀ {a b}, Wt 300 1000 a → Wt 300 1000 b → ∀ k, D_product_of [.int g, em a, em b] k = .ok (em (a * b)) k
  mul : ∀ {a b}, Wt 300 1000 a → Wt 300 1000 b → ∀ k, D__law_mul [.int g, em a, em b] k = .ok (em (a * b)) k
  neg : ∀ a k, D_negative_of [.int g, em a] k = .ok (em (-a)) k
  num0 : ∀ k, D_number_of [.int g, .int 0] k = .ok (em 0) k
  wh0 : ∀ k, D__law_whole_of [.int g, .int 0] k = .ok (em 0) k
  wh1 : ∀ k, D__law_whole_of [.int g, .int 1] k = .ok (em 1) k
  noth : ∀ a k, D_is_nothing [.int g, em a] k = .ok (.bool (decide (a = 0))) k
  back : ∀ {a}, Sl a → a ≠ 0 → ∃ b, (∀ k, D_back_of [.int g, em a] k = .ok (em b) k) ∧ a * b = 1 ∧ Wt 1 2 b
  fits : ∀ {a}, Sl a → ∀ k, D_fits_ground [.int g, em a] k = .ok (.bool true) k
  isnum : ∀ {a}, Wt 300 1000 a → ∀ k, D__law_is_number [.int g, em a] k = .ok (.bool true) k
  eqz : ∀ a, eqD (em a) (em 0) = some (.bool (decide (a = 0)))
  form : ∀ {a}, (∃ v : Int, em a = .int v ∧ g ≠ 0) ∨ ∃ x y : Int, em a = fr x y
  small : ∀ {a}, Sl a → (∃ v : Int, em a = .int v ∧ 0 ≤ v ∧ v ≤ 100) ∨ ∃ x y : Int, em a = fr x y ∧ -100 ≤ x ∧ x ≤ 100 ∧ -100 ≤ y ∧ y ≤ 100
/-! ### remainders -/
section
variable {p : Nat} [NeZero p] (hp : (p : Int) ∈ PR)
include hp
theorem pp_b : 2 ≤ p ∧ p ≤ 97 := by
  have := pr_b hp
  omega
theorem f_add (a b : Fin p) : (((a + b : Fin p).val : Nat) : Int) = ((a.val : Int) + (b.val : Int)) % (p : Int) := by
  rw [Fin.val_add, Int.natCast_emod, Int.natCast_add]
theorem f_mul (a b : Fin p) : (((a * b : Fin p).val : Nat) : Int) = ((a.val : Int) * (b.val : Int)) % (p : Int) := by
  rw [Fin.val_mul, Int.natCast_emod, Int.natCast_mul]
theorem f_neg (a : Fin p) : (((-a : Fin p).val : Nat) : Int) = -(a.val : Int) % (p : Int) := by
  have h := a.isLt
  rw [Fin.val_neg', Int.natCast_emod, Int.natCast_sub (by omega)]
  have e : (p : Int) - (a.val : Int) = -(a.val : Int) + (p : Int) * 1 := by omega
  rw [e, Int.add_mul_emod_self_left]
theorem f_zero : (((0 : Fin p).val : Nat) : Int) = 0 := by
  have : (0 : Fin p).val = 0 := rfl
  rw [this]; rfl
theorem f_one : (((1 : Fin p).val : Nat) : Int) = 1 % (p : Int) := by
  have : (1 : Fin p).val = 1 % p := rfl
  rw [this, Int.natCast_emod]; rfl
theorem f_eq (a : Fin p) : decide ((a.val : Int) = 0) = decide (a = 0) := by
  refine decide_eq_decide.mpr ⟨fun h => Fin.ext ?_, fun h => by rw [h, f_zero hp]⟩
  have : (0 : Fin p).val = 0 := rfl
  omega
theorem f_big (a : Fin p) : -1000000 ≤ (a.val : Int) ∧ (a.val : Int) ≤ 1000000 := by
  have h := a.isLt
  have := pp_b hp
  omega
theorem f_num (v : Int) (h0 : 0 ≤ v) (h1 : v < p) (k : Int × Int) : D__law_is_number [.int (p : Int), .int v] k = .ok (.bool true) k := by
  have e1 : eCall none D__law_whole (aCons (eVar 1) (aCons (eC (.int 0)) (aCons (e2 subD (eVar 0) (eC (.int 1))) aNil))) (⟨[.val (.int p), .val (.int v), .un], k⟩ : S) = .ok (.bool true) (⟨[.val (.int p), .val (.int v), .un], k⟩ : S) := by
    refine eCall_eq (ds := [.int v, .int 0, .int (p - 1)]) (k := k) rfl ?_
    rw [law_whole]
    show Rk.ok (.bool (decide (0 ≤ v) && decide (v ≤ p - 1))) k = _
    rw [decide_eq_true h0, decide_eq_true (by omega)]
    rfl
  exact den_rt (k := k) (s1 := ⟨[.val (.int p), .val (.int v), .un], k⟩) (sq_rt ((sIf_t (ne0 hp _ rfl)).trans (sRet_eq e1)))
def grP : Gr (_root_.Fin p) (p : Int) where
  em := fun x => .int (x.val : Nat)
  Wt := fun _ _ _ => True
  Sl := fun _ => True
  hg := .inr hp
  w_zero := trivial
  w_one := trivial
  w_mono := fun _ _ _ => trivial
  w_add := fun _ _ => trivial
  w_mul := fun _ _ => trivial
  w_neg := fun _ => trivial
  w_sl := fun _ => trivial
  sl0 := trivial
  sl1 := trivial
  sum := fun {a b} _ _ k => (p_sum hp _ _ k).trans (by rw [← f_add hp])
  add := fun {a b} _ _ k => (p_add hp _ _ k).trans (by rw [← f_add hp])
  prod := fun {a b} _ _ k => (p_prod hp (f_big hp a) _ k).trans (by rw [← f_mul hp])
  mul := fun {a b} _ _ k => (p_mul hp (f_big hp a) _ k).trans (by rw [← f_mul hp])
  neg := fun a k => (p_neg hp _ k).trans (by rw [← f_neg hp])
  num0 := fun k => (p_number hp 0 k).trans (by rw [Int.zero_emod, ← f_zero hp])
  wh0 := fun k => (p_whole hp 0 k).trans (by rw [Int.zero_emod, ← f_zero hp])
  wh1 := fun k => (p_whole hp 1 k).trans (by rw [← f_one hp])
  noth := fun a k => (p_nothing hp _ k).trans (by rw [f_eq hp])
  back := fun {a} _ ha => by
    have hl := a.isLt
    have h1 : 1 ≤ (a.val : Int) := by
      have : a.val ≠ 0 := fun z => ha (Fin.ext z)
      omega
    obtain ⟨m, e, m0, m1, m2⟩ := p_back hp h1 (by omega) (0, 0)
    refine ⟨⟨m.toNat, by omega⟩, fun k => ?_, ?_, trivial⟩
    · rw [e k]
      have : ((m.toNat : Nat) : Int) = m := by omega
      show Rk.ok (.int m) k = Rk.ok (.int ((m.toNat : Nat) : Int)) k
      rw [this]
    · refine Fin.ext ?_
      have q := f_mul hp a ⟨m.toNat, by omega⟩
      have e1 := f_one hp
      have em : ((m.toNat : Nat) : Int) = m := by omega
      have hb := pp_b hp
      have e2 : (1 : Int) % (p : Int) = 1 := Int.emod_eq_of_lt (by omega) (by omega)
      rw [e2] at e1
      have q2 : (((a * ⟨m.toNat, by omega⟩ : _root_.Fin p).val : Nat) : Int) = (a.val : Int) * m % (p : Int) := by
        rw [q]
        show (a.val : Int) * ((m.toNat : Nat) : Int) % _ = _
        rw [em]
      rw [m2] at q2
      have : (((a * ⟨m.toNat, by omega⟩ : _root_.Fin p).val : Nat) : Int) = (((1 : _root_.Fin p).val : Nat) : Int) := by rw [q2, e1]
      exact Int.ofNat.inj this
  fits := fun {a} _ k => p_fits hp (by omega) (by have := a.isLt; omega) k
  isnum := fun {a} _ k => f_num hp _ (by omega) (by have := a.isLt; omega) k
  eqz := fun a => by
    rw [eq_int]
    have e := f_zero hp
    rw [e, f_eq hp]
  form := fun {a} => .inl ⟨_, rfl, by have := pp_b hp; omega⟩
  small := fun {a} _ => .inl ⟨_, rfl, by omega, by have := a.isLt; have := pp_b hp; omega⟩
end
end GD
set_option maxHeartbeats 2000000
/-! ### fractions -/
namespace GD
open PySem PySem.Spec PL LL Lean.Grind
def ez (q : Rat) : D := fr q.num (q.den : Nat)
/-- weights: what the bottom divides, how great the number is -/
def Wz (w m : Nat) (q : Rat) : Prop := ∃ z : Int, q.num * 6 ^ w = z * (q.den : Int) ∧ z.natAbs ≤ 2 ^ m * 6 ^ w
theorem den_pos (q : Rat) : 0 < (q.den : Int) := by
  have := q.den_nz
  omega
/-- a number in lowest terms out of top and bottom -/
theorem low_of {q : Rat} {n : Int} {d : Nat} (hd : d ≠ 0) (e1 : q.num = n / ((n.natAbs.gcd d : Nat) : Int)) (e2 : q.den = d / n.natAbs.gcd d) : ∃ c : Int, 0 < c ∧ n = c * q.num ∧ (d : Int) = c * (q.den : Int) := by
  have gp : 0 < n.natAbs.gcd d := Nat.gcd_pos_of_pos_right _ (by omega)
  refine ⟨((n.natAbs.gcd d : Nat) : Int), by omega, ?_, ?_⟩
  · rw [e1]
    have : ((n.natAbs.gcd d : Nat) : Int) ∣ n := Int.natAbs_dvd_natAbs.mp (by rw [Int.natAbs_natCast]; exact Nat.gcd_dvd_left ..)
    exact (Int.mul_ediv_cancel' this).symm
  · rw [e2, ← Int.natCast_mul, Nat.mul_div_cancel' (Nat.gcd_dvd_right ..)]
theorem lo_add (a b : Rat) : ∃ c : Int, 0 < c ∧ a.num * (b.den : Int) + b.num * (a.den : Int) = c * (a + b).num ∧ (a.den : Int) * (b.den : Int) = c * ((a + b).den : Int) := by
  obtain ⟨c, c0, e1, e2⟩ := low_of (q := a + b) (n := a.num * (b.den : Int) + b.num * (a.den : Int)) (d := a.den * b.den) (Nat.mul_ne_zero a.den_nz b.den_nz) (Rat.num_add a b) (Rat.den_add a b)
  exact ⟨c, c0, e1, by rw [← e2, Int.natCast_mul]⟩
theorem lo_mul (a b : Rat) : ∃ c : Int, 0 < c ∧ a.num * b.num = c * (a * b).num ∧ (a.den : Int) * (b.den : Int) = c * ((a * b).den : Int) := by
  obtain ⟨c, c0, e1, e2⟩ := low_of (q := a * b) (n := a.num * b.num) (d := a.den * b.den) (Nat.mul_ne_zero a.den_nz b.den_nz) (Rat.num_mul a b) (Rat.den_mul a b)
  exact ⟨c, c0, e1, by rw [← e2, Int.natCast_mul]⟩
theorem wz_add {w m : Nat} {a b : Rat} (ha : Wz w m a) (hb : Wz w m b) : Wz w (m + 1) (a + b) := by
  obtain ⟨x, hx, lx⟩ := ha
  obtain ⟨y, hy, ly⟩ := hb
  obtain ⟨c, c0, e1, e2⟩ := lo_add a b
  refine ⟨x + y, ?_, ?_⟩
  · refine Int.eq_of_mul_eq_mul_left (a := c) (by omega) ?_
    rw [← Int.mul_assoc, ← e1, ← Int.mul_assoc, Int.mul_comm c, Int.mul_assoc, ← e2, Int.add_mul]
    have f1 : a.num * (b.den : Int) * 6 ^ w = x * ((a.den : Int) * (b.den : Int)) := by
      rw [Int.mul_right_comm, hx, Int.mul_assoc]
    have f2 : b.num * (a.den : Int) * 6 ^ w = y * ((a.den : Int) * (b.den : Int)) := by
      rw [Int.mul_right_comm, hy, Int.mul_assoc, Int.mul_comm (b.den : Int)]
    rw [f1, f2, Int.add_mul]
  · have h1 := Int.natAbs_add_le x y
    have e : 2 ^ (m + 1) * 6 ^ w = 2 ^ m * 6 ^ w + 2 ^ m * 6 ^ w := by rw [Nat.pow_succ]; grind
    omega
theorem wz_mul {w w' m m' : Nat} {a b : Rat} (ha : Wz w m a) (hb : Wz w' m' b) : Wz (w + w') (m + m') (a * b) := by
  obtain ⟨x, hx, lx⟩ := ha
  obtain ⟨y, hy, ly⟩ := hb
  obtain ⟨c, c0, e1, e2⟩ := lo_mul a b
  refine ⟨x * y, ?_, ?_⟩
  · refine Int.eq_of_mul_eq_mul_left (a := c) (by omega) ?_
    have f1 : c * ((a * b).num * 6 ^ (w + w')) = (a.num * 6 ^ w) * (b.num * 6 ^ w') := by
      rw [← Int.mul_assoc, ← e1, Int.pow_add]; grind
    rw [f1, hx, hy]
    have f2 : c * (x * y * ((a * b).den : Int)) = x * y * ((a.den : Int) * (b.den : Int)) := by rw [e2]; grind
    rw [f2]; grind
  · rw [Int.natAbs_mul]
    have := Nat.mul_le_mul lx ly
    have e : 2 ^ (m + m') * 6 ^ (w + w') = 2 ^ m * 6 ^ w * (2 ^ m' * 6 ^ w') := by rw [Nat.pow_add, Nat.pow_add]; grind
    omega
theorem wz_mono {w w' m m' : Nat} {a : Rat} (hw : w ≤ w') (hm : m ≤ m') (h : Wz w m a) : Wz w' m' a := by
  obtain ⟨x, hx, lx⟩ := h
  have e : w' = w + (w' - w) := by omega
  refine ⟨x * 6 ^ (w' - w), ?_, ?_⟩
  · rw [e, Int.pow_add, ← Int.mul_assoc, hx, show w + (w' - w) - w = w' - w by omega]; grind
  · rw [Int.natAbs_mul, Int.natAbs_pow]
    have h1 : 2 ^ m ≤ 2 ^ m' := Nat.pow_le_pow_right (by decide) hm
    have h2 : (6 : Int).natAbs = 6 := rfl
    have h3 : 6 ^ w' = 6 ^ w * 6 ^ (w' - w) := by rw [← Nat.pow_add, ← e]
    rw [h2, h3, ← Nat.mul_assoc]
    exact Nat.mul_le_mul_right _ (Nat.le_trans lx (Nat.mul_le_mul_right _ h1))
theorem wz_neg {w m : Nat} {a : Rat} (h : Wz w m a) : Wz w m (-a) := by
  obtain ⟨x, hx, lx⟩ := h
  refine ⟨-x, ?_, by rw [Int.natAbs_neg]; exact lx⟩
  show -a.num * 6 ^ w = -x * (a.den : Int)
  rw [Int.neg_mul, Int.neg_mul, hx]
/-- what follows for top and bottom -/
theorem wz_out {w m : Nat} {q : Rat} (h : Wz w m q) : q.den ≤ 6 ^ w ∧ q.num.natAbs ≤ 2 ^ m * 6 ^ w := by
  obtain ⟨x, hx, lx⟩ := h
  have h1 : q.den ∣ q.num.natAbs * 6 ^ w := by
    have z := congrArg Int.natAbs hx
    rw [Int.natAbs_mul, Int.natAbs_mul, Int.natAbs_pow, Int.natAbs_natCast] at z
    exact ⟨x.natAbs, by rw [show (6 : Int).natAbs = 6 from rfl] at z; rw [z, Nat.mul_comm]⟩
  have h2 : q.den ∣ 6 ^ w := Nat.Coprime.dvd_of_dvd_mul_left (Nat.Coprime.symm q.reduced) h1
  obtain ⟨t, ht⟩ := h2
  have hp : 0 < 6 ^ w := Nat.pow_pos (by decide)
  have t1 : 1 ≤ t := by
    rcases Nat.eq_zero_or_pos t with z | z
    · rw [z] at ht; omega
    · exact z
  refine ⟨by rw [ht]; exact Nat.le_mul_of_pos_right _ t1, Nat.le_trans ?_ lx⟩
  have z := congrArg Int.natAbs hx
  rw [Int.natAbs_mul, Int.natAbs_mul, Int.natAbs_pow, Int.natAbs_natCast, show (6 : Int).natAbs = 6 from rfl, ht] at z
  have e : q.num.natAbs * t = x.natAbs := by
    have d0 : 0 < q.den := Nat.pos_of_ne_zero q.den_nz
    refine Nat.eq_of_mul_eq_mul_left d0 ?_
    rw [Nat.mul_comm q.den x.natAbs, ← z]; grind
  rw [← e]
  exact Nat.le_mul_of_pos_right _ t1
theorem bn1 : 2 ^ 1000 * 6 ^ 300 < BN := by unfold BN; decide +kernel
theorem bn2 : 6 ^ 300 * 6 ^ 300 < BN := by unfold BN; decide +kernel
theorem bn3 : 6 ^ 300 < BN := by unfold BN; decide +kernel
theorem wz_num {q : Rat} (h : Wz 300 1000 q) : q.num.natAbs < BN := Nat.lt_of_le_of_lt (wz_out h).2 bn1
theorem wz_den {q : Rat} (h : Wz 300 1000 q) : ((q.den : Nat) : Int).natAbs < BN := by
  rw [Int.natAbs_natCast]
  exact Nat.lt_of_le_of_lt (wz_out h).1 bn3
theorem wz_dd {a b : Rat} (ha : Wz 300 1000 a) (hb : Wz 300 1000 b) : (((a.den : Nat) : Int) * ((b.den : Nat) : Int)).natAbs < BN := by
  rw [Int.natAbs_mul, Int.natAbs_natCast, Int.natAbs_natCast]
  exact Nat.lt_of_le_of_lt (Nat.mul_le_mul (wz_out ha).1 (wz_out hb).1) bn2
theorem dd_pos (a b : Rat) : 0 < (a.den : Int) * (b.den : Int) := Int.mul_pos (den_pos a) (den_pos b)
/-- lowest terms, as told -/
theorem low_fr {q : Rat} {n : Int} {d : Nat} (hd : d ≠ 0) (e1 : q.num = n / ((n.natAbs.gcd d : Nat) : Int)) (e2 : q.den = d / n.natAbs.gcd d) : fr (rt n (d : Int)) (rb n (d : Int)) = ez q := by
  have h0 : 0 < (d : Int) := by omega
  unfold rt rb ez
  rw [if_pos h0, if_pos h0, e1, e2]
  unfold gg
  rw [Int.natAbs_natCast, Int.natCast_ediv]
theorem ez_sum (a b : Rat) : fr (rt (a.num * (b.den : Int) + b.num * (a.den : Int)) ((a.den : Int) * (b.den : Int))) (rb (a.num * (b.den : Int) + b.num * (a.den : Int)) ((a.den : Int) * (b.den : Int))) = ez (a + b) := by
  rw [← Int.natCast_mul]
  exact low_fr (Nat.mul_ne_zero a.den_nz b.den_nz) (Rat.num_add a b) (Rat.den_add a b)
theorem ez_prod (a b : Rat) : fr (rt (a.num * b.num) ((a.den : Int) * (b.den : Int))) (rb (a.num * b.num) ((a.den : Int) * (b.den : Int))) = ez (a * b) := by
  rw [← Int.natCast_mul]
  exact low_fr (Nat.mul_ne_zero a.den_nz b.den_nz) (Rat.num_mul a b) (Rat.den_mul a b)
/-- numbers drawn -/
def Dz (q : Rat) : Prop := q.num.natAbs ≤ 3 ∧ q.den ≤ 3
theorem dz_w {q : Rat} (h : Dz q) : Wz 1 2 q := by
  obtain ⟨h1, h2⟩ := h
  have d0 := q.den_nz
  have e : q.den = 1 ∨ q.den = 2 ∨ q.den = 3 := by omega
  rcases e with e | e | e
  · exact ⟨q.num * 6, by rw [e]; grind, by rw [Int.natAbs_mul]; show _ * 6 ≤ 2 ^ 2 * 6 ^ 1; omega⟩
  · exact ⟨q.num * 3, by rw [e]; grind, by rw [Int.natAbs_mul]; show _ * 3 ≤ 2 ^ 2 * 6 ^ 1; omega⟩
  · exact ⟨q.num * 2, by rw [e]; grind, by rw [Int.natAbs_mul]; show _ * 2 ≤ 2 ^ 2 * 6 ^ 1; omega⟩
theorem num0_iff (q : Rat) : q.num = 0 ↔ q = 0 := by
  constructor
  · intro h
    have hr := q.reduced
    unfold Nat.Coprime at hr
    rw [h, show (0 : Int).natAbs = 0 from rfl, Nat.gcd_zero_left] at hr
    exact Rat.ext h hr
  · intro h; rw [h]; rfl
theorem z_back {a : Rat} (ha : Dz a) (h0 : a ≠ 0) : ∃ b, (∀ k, D_back_of [.int 0, ez a] k = .ok (ez b) k) ∧ a * b = 1 ∧ Wz 1 2 b := by
  have hn : a.num ≠ 0 := fun z => h0 ((num0_iff a).mp z)
  have hd := den_pos a
  refine ⟨a⁻¹, fun k => ?_, Rat.mul_inv_cancel a h0, ?_⟩
  · have e0 : tV (e2 eqD (eVar 0) (eC (.int 0))) (⟨[.val (.int 0), .val (ez a), .un], k⟩ : S) = .ok true (⟨[.val (.int 0), .val (ez a), .un], k⟩ : S) := rfl
    have hB : a.num.natAbs < BN := by
      have h1 := ha.1
      have h2 : 3 < BN := by unfold BN; decide +kernel
      omega
    have e1 : eCall none D_ratio (aCons (pkF 1 (eC (.int 1)) idxD) (aCons (pkF 1 (eC (.int 0)) idxD) aNil)) (⟨[.val (.int 0), .val (ez a), .un], k⟩ : S) = .ok (fr (rt (a.den : Int) a.num) (rb (a.den : Int) a.num)) (⟨[.val (.int 0), .val (ez a), .un], k⟩ : S) := eCall_eq (ds := [.int (a.den : Int), .int a.num]) (k := k) rfl (ratio hn hB k)
    have e2' : fr (rt (a.den : Int) a.num) (rb (a.den : Int) a.num) = ez a⁻¹ := by
      unfold ez
      have hg : Nat.gcd ((a.den : Nat) : Int).natAbs a.num.natAbs = 1 := by
        rw [Int.natAbs_natCast, Nat.gcd_comm]; exact a.reduced
      rw [Rat.num_inv, Rat.den_inv, if_neg hn]
      by_cases hp : 0 < a.num
      · obtain ⟨f1, f2⟩ := low_rt hp hg
        rw [f1, f2, Int.sign_eq_one_of_pos hp, Int.one_mul, Int.natAbs_of_nonneg (by omega)]
      · obtain ⟨f1, f2⟩ := low_neg (by omega : a.num < 0) hg
        rw [f1, f2, Int.sign_eq_neg_one_of_neg (by omega)]
        have : ((a.num.natAbs : Nat) : Int) = -a.num := by omega
        rw [this]
        have : (-1 : Int) * (a.den : Int) = -(a.den : Int) := by omega
        rw [this]
    rw [e2'] at e1
    exact den_rt (k := k) (s1 := ⟨[.val (.int 0), .val (ez a), .un], k⟩) (sq_rt ((sIf_t e0).trans (sRet_eq e1)))
  · refine dz_w ⟨?_, ?_⟩
    · rw [Rat.num_inv, Int.natAbs_mul, Int.natAbs_sign_of_ne_zero hn, Int.natAbs_natCast]
      have := ha.2
      omega
    · rw [Rat.den_inv, if_neg hn]
      exact ha.1
theorem ez_zero : ez 0 = fr 0 1 := rfl
theorem ez_one : ez 1 = fr 1 1 := rfl
theorem ez_neg (a : Rat) : ez (-a) = fr (-a.num) (a.den : Nat) := rfl
abbrev G40 : Int := 10000000000000000000000000000000000000000
theorem z_fits {a b : Int} (b0 : 1 ≤ b) (b1 : b ≤ G40) (a0 : -G40 ≤ a) (a1 : a ≤ G40) (hl : Nat.gcd a.natAbs b.natAbs = 1) (k : Int × Int) : D_fits_ground [.int 0, fr a b] k = .ok (.bool true) k := by
  have e0 : tV (e2 neD (eVar 0) (eC (.int 0))) (v2 (.int 0) (fr a b) k) = .ok false (v2 (.int 0) (fr a b) k) := rfl
  have e1 : eCall none D_is_tuple_of (aCons (eVar 1) (aCons (eC (.int 2)) (aCons (eC (.int 2)) aNil))) (v2 (.int 0) (fr a b) k) = .ok (.bool true) (v2 (.int 0) (fr a b) k) := eCall_eq (ds := [fr a b, .int 2, .int 2]) (k := k) rfl (is_tuple _ 2 2 k)
  have e2' : eCall none D_is_whole (aCons (pkF 1 (eC (.int 0)) idxD) (aCons (PL.e1 negD (eC (.int 10000000000000000000000000000000000000000))) (aCons (eC (.int 10000000000000000000000000000000000000000)) aNil))) (v2 (.int 0) (fr a b) k) = .ok (.bool true) (v2 (.int 0) (fr a b) k) := by
    refine eCall_eq (ds := [.int a, .int (-10000000000000000000000000000000000000000), .int 10000000000000000000000000000000000000000]) (k := k) rfl ?_
    rw [is_whole]
    show Rk.ok (.bool (decide (-10000000000000000000000000000000000000000 ≤ a) && decide (a ≤ 10000000000000000000000000000000000000000))) k = _
    rw [decide_eq_true a0, decide_eq_true a1]
    rfl
  have e3 : eCall none D_is_whole (aCons (pkF 1 (eC (.int 1)) idxD) (aCons (eC (.int 1)) (aCons (eC (.int 10000000000000000000000000000000000000000)) aNil))) (v2 (.int 0) (fr a b) k) = .ok (.bool true) (v2 (.int 0) (fr a b) k) := by
    refine eCall_eq (ds := [.int b, .int 1, .int 10000000000000000000000000000000000000000]) (k := k) rfl ?_
    rw [is_whole]
    show Rk.ok (.bool (decide (1 ≤ b) && decide (b ≤ 10000000000000000000000000000000000000000))) k = _
    rw [decide_eq_true b0, decide_eq_true b1]
    rfl
  have e4 : e2 eqD (eA gcdD (aCons (pkF 1 (eC (.int 0)) idxD) (aCons (pkF 1 (eC (.int 1)) idxD) aNil))) (eC (.int 1)) (v2 (.int 0) (fr a b) k) = .ok (.bool true) (v2 (.int 0) (fr a b) k) := by
    refine e2_eq (x := .int ((Nat.gcd a.natAbs b.natAbs : Nat) : Int)) (y := .int 1) rfl rfl ?_
    rw [eq_int, hl]
    rfl
  exact den_rt (k := k) (s1 := v2 (.int 0) (fr a b) k) (sq_nx ((sIf_f e0).trans rfl) (sq_nx ((sIf_f ((tOr_f (tNot_eq (tV_eq e1))).trans ((tOr_f (tNot_eq (tV_eq e2'))).trans (tNot_eq (tV_eq e3))))).trans rfl) (sRet_eq e4)))
/-- two integers with a bottom from 1 on, judged by the law -/
theorem z_isnum (a b : Int) (hb : b.natAbs < BN) (k : Int × Int) : D__law_is_number [.int 0, fr a b] k = .ok (.bool (decide (0 < b) && decide (Nat.gcd a.natAbs b.natAbs = 1))) k := by
  have e0 : tV (e2 neD (eVar 0) (eC (.int 0))) (⟨[.val (.int 0), .val (fr a b), .un], k⟩ : S) = .ok false (⟨[.val (.int 0), .val (fr a b), .un], k⟩ : S) := rfl
  have e1 : tOr (tV (e2 neD (eCall none D__law_sort (aCons (eVar 1) aNil)) (eC (.int 4)))) (tOr (tV (e2 neD (pkF 1 (PL.ret ()) fun d _ => lenD [d]) (eC (.int 2)))) (tV (e2 neD (frz (eLc (bnd (eVar 1) itD) (gN 2) (tV (e2 neD (eCall none D__law_sort (aCons (eVar 2) aNil)) (eC (.int 2)))) (eC (.int 1)) [2])) (eA lstD aNil)))) (⟨[.val (.int 0), .val (fr a b), .un], k⟩ : S) = .ok false (⟨[.val (.int 0), .val (fr a b), .un], k⟩ : S) := rfl
  have g1 : e2 gtD (pkF 1 (eC (.int 1)) idxD) (eC (.int 0)) (⟨[.val (.int 0), .val (fr a b), .un], k⟩ : S) = .ok (.bool (decide (0 < b))) (⟨[.val (.int 0), .val (fr a b), .un], k⟩ : S) := rfl
  have r1 := (sIf_f (a := sRet (eC (.bool false))) (c := PL.ret .nx) e1).trans (rfl : _ = Res.ok Fl.nx (⟨[.val (.int 0), .val (fr a b), .un], k⟩ : S))
  have r0 := (sIf_f (a := sRet (eCall none D__law_whole (aCons (eVar 1) (aCons (eC (.int 0)) (aCons (e2 subD (eVar 0) (eC (.int 1))) aNil))))) (c := PL.ret .nx) e0).trans (rfl : _ = Res.ok Fl.nx (⟨[.val (.int 0), .val (fr a b), .un], k⟩ : S))
  by_cases h0 : 0 < b
  · rw [decide_eq_true h0] at g1 ⊢
    have eb : ((b.natAbs : Nat) : Int) = b := by omega
    have dv := divisor a.natAbs b.natAbs hb k
    rw [eb] at dv
    have g2 : eCall none D__law_divisor (aCons (eA absD (aCons (pkF 1 (eC (.int 0)) idxD) aNil)) (aCons (pkF 1 (eC (.int 1)) idxD) aNil)) (⟨[.val (.int 0), .val (fr a b), .un], k⟩ : S) = .ok (.int (Nat.gcd a.natAbs b.natAbs : Nat)) (⟨[.val (.int 0), .val (fr a b), .un], k⟩ : S) := by
      have h1 : eA absD (aCons (pkF 1 (eC (.int 0)) idxD) aNil) (⟨[.val (.int 0), .val (fr a b), .un], k⟩ : S) = .ok (.int (a.natAbs : Nat)) (⟨[.val (.int 0), .val (fr a b), .un], k⟩ : S) := eA1_eq (d := .int a) rfl (abs_nat a)
      have h2 : aCons (pkF 1 (eC (.int 1)) idxD) aNil (⟨[.val (.int 0), .val (fr a b), .un], k⟩ : S) = .ok [.int b] (⟨[.val (.int 0), .val (fr a b), .un], k⟩ : S) := rfl
      exact eCall_eq (k := k) (aCons_eq h1 h2) dv
    have g3 := e2_eq (f := eqD) (mb := eC (.int 1)) (y := .int 1) g2 rfl (eq_int _ _)
    have e5 : decide ((((Nat.gcd a.natAbs b.natAbs : Nat) : Int)) = 1) = decide (Nat.gcd a.natAbs b.natAbs = 1) := decide_eq_decide.mpr (by omega)
    rw [e5] at g3
    rw [Bool.true_and]
    exact den_rt (k := k) (s1 := ⟨[.val (.int 0), .val (fr a b), .un], k⟩) (sq_nx r0 (sq_nx r1 (sRet_eq ((eAnd_t g1).trans g3))))
  · rw [decide_eq_false h0] at g1 ⊢
    rw [Bool.false_and]
    exact den_rt (k := k) (s1 := ⟨[.val (.int 0), .val (fr a b), .un], k⟩) (sq_nx r0 (sq_nx r1 (sRet_eq (eAnd_f g1))))
theorem sh_fr (a b : Int) : shD (fr a b) = true := sh_tup [a, b]
theorem eq_fr (a b c d : Int) : eqD (fr a b) (fr c d) = some (.bool (decide ([a, b] = [c, d]))) := eq_tup [a, b] [c, d]
def grZ : Gr Rat 0 where
  em := ez
  Wt := Wz
  Sl := Dz
  hg := .inl rfl
  w_zero := ⟨0, rfl, by decide⟩
  w_one := ⟨1, rfl, by decide⟩
  w_mono := wz_mono
  w_add := wz_add
  w_mul := wz_mul
  w_neg := wz_neg
  w_sl := dz_w
  sl0 := ⟨by decide, by decide⟩
  sl1 := ⟨by decide, by decide⟩
  sum := fun {a b} ha hb k => (z_sum2 (wz_num ha) (wz_den ha) (wz_num hb) (wz_den hb) (dd_pos a b) (wz_dd ha hb) k).1.trans (by rw [ez_sum])
  add := fun {a b} ha hb k => (z_sum2 (wz_num ha) (wz_den ha) (wz_num hb) (wz_den hb) (dd_pos a b) (wz_dd ha hb) k).2.trans (by rw [ez_sum])
  prod := fun {a b} ha hb k => (z_prod2 (wz_num ha) (wz_den ha) (wz_num hb) (wz_den hb) (dd_pos a b) (wz_dd ha hb) k).1.trans (by rw [ez_prod])
  mul := fun {a b} ha hb k => (z_prod2 (wz_num ha) (wz_den ha) (wz_num hb) (wz_den hb) (dd_pos a b) (wz_dd ha hb) k).2.trans (by rw [ez_prod])
  neg := fun a k => rfl
  num0 := fun k => rfl
  wh0 := fun k => rfl
  wh1 := fun k => rfl
  noth := fun a k => by
    have e1 : eIf (tV (e2 eqD (eVar 0) (eC (.int 0)))) (e2 eqD (pkF 1 (eC (.int 0)) idxD) (eC (.int 0))) (e2 eqD (eVar 1) (eC (.int 0))) (v2 (.int 0) (ez a) k) = .ok (.bool (decide (a = 0))) (v2 (.int 0) (ez a) k) := by
      refine (eIf_t (s1 := v2 (.int 0) (ez a) k) rfl).trans (e2_eq (x := .int a.num) (y := .int 0) rfl rfl ?_)
      rw [eq_int, decide_eq_decide.mpr (num0_iff a)]
    exact den_rt (k := k) (sRet_eq e1)
  back := fun {a} h0 h => z_back h0 h
  fits := fun {a} h k => by
    have := den_pos a
    have h1 := h.1
    have h2 := h.2
    exact z_fits (by omega) (by show _ ≤ (10000000000000000000000000000000000000000 : Int); omega) (by show -(10000000000000000000000000000000000000000 : Int) ≤ _; omega) (by show _ ≤ (10000000000000000000000000000000000000000 : Int); omega) (by rw [Int.natAbs_natCast]; exact a.reduced) k
  isnum := fun {a} h k => by
    have e := z_isnum a.num (a.den : Int) (wz_den h) k
    rw [decide_eq_true (den_pos a), Int.natAbs_natCast, decide_eq_true (show Nat.gcd a.num.natAbs a.den = 1 from a.reduced)] at e
    exact e
  eqz := fun a => by
    show eqD (fr a.num (a.den : Int)) (fr 0 1) = _
    rw [eq_fr]
    refine congrArg (fun b => some (PyData.bool b)) (decide_eq_decide.mpr ⟨fun h => ?_, fun h => by rw [h]; rfl⟩)
    injection h with h1 h2
    exact (num0_iff a).mp h1
  form := fun {a} => .inr ⟨_, _, rfl⟩
  small := fun {a} h => .inr ⟨a.num, (a.den : Int), rfl, by have := h.1; omega, by have := h.1; omega, by omega, by have := h.2; omega⟩
end GD
set_option maxHeartbeats 2000000
namespace K90
open PySem PySem.Spec PyProof.Rows L2 LamX PL HotX L2H LL GD
def top (i : Nat) : Stmt := PySem.Challenge.pw_blendhouse_k90_whole_power_rows.main.body.getD i (.Pass ⟨0, 0, 0, 0⟩)
abbrev s__law_error : Stmt := top 41
abbrev s__law_cup : Stmt := top 34
abbrev s__law_roll : Stmt := top 35
abbrev s__law_some : Stmt := top 36
abbrev s__law_divisor : Stmt := top 42
abbrev s__law_plain : Stmt := top 43
abbrev s__law_whole_of : Stmt := top 46
abbrev s__law_row : Stmt := top 49
abbrev s_is_whole : Stmt := top 7
abbrev s_is_ground : Stmt := top 12
abbrev s_need_ground : Stmt := top 13
abbrev s_is_tuple_of : Stmt := top 8
abbrev s_fits_ground : Stmt := top 14
abbrev s_fits_power_row : Stmt := top 23
abbrev s_is_power_row : Stmt := top 24
abbrev s_need_power_row : Stmt := top 25
abbrev s_need_like : Stmt := top 26
abbrev s_number_of : Stmt := top 16
abbrev s_ratio : Stmt := top 15
abbrev s_sum_of : Stmt := top 18
abbrev s_product_of : Stmt := top 19
abbrev s_times_row : Stmt := top 27
abbrev s_multiplied_rows : Stmt := top 28
abbrev s_is_nothing : Stmt := top 17
abbrev s_put_row : Stmt := top 29
abbrev s_put_into_row : Stmt := top 30
abbrev s__law_sort : Stmt := top 37
abbrev s__law_like : Stmt := top 38
abbrev s__law_add : Stmt := top 44
abbrev s__law_mul : Stmt := top 45
abbrev s__law_times : Stmt := top 47
abbrev s__law_put : Stmt := top 48
abbrev s_back_of : Stmt := top 21
abbrev s_negative_of : Stmt := top 20
abbrev s_reciprocal : Stmt := top 31
abbrev s__law_whole : Stmt := top 39
abbrev s__law_is_number : Stmt := top 50
abbrev s__law_is_row : Stmt := top 51
abbrev s_turned_row : Stmt := top 32
abbrev s__law_bent : Stmt := top 40
abbrev s__law_right : Stmt := top 52
abbrev s__law_errors_right : Stmt := top 53
abbrev s_law : Stmt := top 54
/-- what the head tells of the names -/
structure Gf (K : PySem.W.Frag) (mg : Str → Option Value) : Prop where
  b_abs : mg "abs" = none
  b_all : mg "all" = none
  b_bool : mg "bool" = none
  b_enumerate : mg "enumerate" = none
  b_int : mg "int" = none
  b_isinstance : mg "isinstance" = none
  b_len : mg "len" = none
  b_list : mg "list" = none
  b_min : mg "min" = none
  b_range : mg "range" = none
  b_reversed : mg "reversed" = none
  b_str : mg "str" = none
  b_tuple : mg "tuple" = none
  b_zip : mg "zip" = none
  i_GREAT : ∃ t, mg "GREAT" = some (.int 10000000000000000000000000000000000000000 t)
  x_InvalidNumber : ExcO K mg "InvalidNumber"
  x_InvalidRow : ExcO K mg "InvalidRow"
  x_NotFound : ExcO K mg "NotFound"
  f_gcd : mg "gcd" = some (.builtin "math.gcd")
  u_PRIMES : mg "PRIMES" = some (.ref (He.ga K "PRIMES"))
  v_PRIMES : TupG K (He.ga K "PRIMES") [2, 3, 5, 7, 11, 13, 17, 19, 23, 29, 31, 37, 41, 43, 47, 53, 59, 61, 67, 71, 73, 79, 83, 89, 97]
  d__law_cup : DefF K mg "_law_cup" s__law_cup
  d__law_roll : DefF K mg "_law_roll" s__law_roll
  d__law_some : DefF K mg "_law_some" s__law_some
  d__law_divisor : DefF K mg "_law_divisor" s__law_divisor
  d__law_plain : DefF K mg "_law_plain" s__law_plain
  d__law_whole_of : DefF K mg "_law_whole_of" s__law_whole_of
  d__law_row : DefF K mg "_law_row" s__law_row
  d_is_whole : DefF K mg "is_whole" s_is_whole
  d_is_ground : DefF K mg "is_ground" s_is_ground
  d_need_ground : DefF K mg "need_ground" s_need_ground
  d_is_tuple_of : DefF K mg "is_tuple_of" s_is_tuple_of
  d_fits_ground : DefF K mg "fits_ground" s_fits_ground
  d_fits_power_row : DefF K mg "fits_power_row" s_fits_power_row
  d_is_power_row : DefF K mg "is_power_row" s_is_power_row
  d_need_power_row : DefF K mg "need_power_row" s_need_power_row
  d_need_like : DefF K mg "need_like" s_need_like
  d_number_of : DefF K mg "number_of" s_number_of
  d_ratio : DefF K mg "ratio" s_ratio
  d_sum_of : DefF K mg "sum_of" s_sum_of
  d_product_of : DefF K mg "product_of" s_product_of
  d_times_row : DefF K mg "times_row" s_times_row
  d_multiplied_rows : DefF K mg "multiplied_rows" s_multiplied_rows
  d_is_nothing : DefF K mg "is_nothing" s_is_nothing
  d_put_row : DefF K mg "put_row" s_put_row
  d_put_into_row : DefF K mg "put_into_row" s_put_into_row
  d__law_sort : DefF K mg "_law_sort" s__law_sort
  d__law_like : DefF K mg "_law_like" s__law_like
  d__law_add : DefF K mg "_law_add" s__law_add
  d__law_mul : DefF K mg "_law_mul" s__law_mul
  d__law_times : DefF K mg "_law_times" s__law_times
  d__law_put : DefF K mg "_law_put" s__law_put
  d_back_of : DefF K mg "back_of" s_back_of
  d_negative_of : DefF K mg "negative_of" s_negative_of
  d_reciprocal : DefF K mg "reciprocal" s_reciprocal
  d__law_whole : DefF K mg "_law_whole" s__law_whole
  d__law_is_number : DefF K mg "_law_is_number" s__law_is_number
  d__law_is_row : DefF K mg "_law_is_row" s__law_is_row
  d_turned_row : DefF K mg "turned_row" s_turned_row
  d__law_bent : DefF K mg "_law_bent" s__law_bent
  d__law_right : DefF K mg "_law_right" s__law_right
  d__law_errors_right : DefF K mg "_law_errors_right" s__law_errors_right
  d_law : DefF K mg "law" s_law
  t__law_right__law_errors_right : He.tabOf K (He.codeOf K ("_law_right", none)) ≠ He.tabOf K (He.codeOf K ("_law_errors_right", none))
  g_BlendError : mg "BlendError" = some (.ref (He.ga K "BlendError"))
  g_NotFound : mg "NotFound" = some (.ref (He.ga K "NotFound"))
  g_InvalidRow : mg "InvalidRow" = some (.ref (He.ga K "InvalidRow"))
  g_InvalidNumber : mg "InvalidNumber" = some (.ref (He.ga K "InvalidNumber"))
  m_InvalidNumber : PySem.W.exmOne K (.ref (He.ga K "InvalidNumber")) (.ref (He.ga K "BlendError")) = some true
  e_InvalidNumber : ExcC K (He.ga K "InvalidNumber")
  k_InvalidNumber_NotFound : PySem.W.kitOne K (.ref (He.ga K "InvalidNumber")) (.ref (He.ga K "NotFound")) = some false
  k_InvalidNumber_InvalidRow : PySem.W.kitOne K (.ref (He.ga K "InvalidNumber")) (.ref (He.ga K "InvalidRow")) = some false
  k_InvalidNumber_InvalidNumber : PySem.W.kitOne K (.ref (He.ga K "InvalidNumber")) (.ref (He.ga K "InvalidNumber")) = some true
  m_InvalidRow : PySem.W.exmOne K (.ref (He.ga K "InvalidRow")) (.ref (He.ga K "BlendError")) = some true
  e_InvalidRow : ExcC K (He.ga K "InvalidRow")
  k_InvalidRow_NotFound : PySem.W.kitOne K (.ref (He.ga K "InvalidRow")) (.ref (He.ga K "NotFound")) = some false
  k_InvalidRow_InvalidRow : PySem.W.kitOne K (.ref (He.ga K "InvalidRow")) (.ref (He.ga K "InvalidRow")) = some true
  k_InvalidRow_InvalidNumber : PySem.W.kitOne K (.ref (He.ga K "InvalidRow")) (.ref (He.ga K "InvalidNumber")) = some false
  m_NotFound : PySem.W.exmOne K (.ref (He.ga K "NotFound")) (.ref (He.ga K "BlendError")) = some true
  e_NotFound : ExcC K (He.ga K "NotFound")
  k_NotFound_NotFound : PySem.W.kitOne K (.ref (He.ga K "NotFound")) (.ref (He.ga K "NotFound")) = some true
  k_NotFound_InvalidRow : PySem.W.kitOne K (.ref (He.ga K "NotFound")) (.ref (He.ga K "InvalidRow")) = some false
  k_NotFound_InvalidNumber : PySem.W.kitOne K (.ref (He.ga K "NotFound")) (.ref (He.ga K "InvalidNumber")) = some false
  d__law_error : DefF K mg "_law_error" s__law_error
/-! ### _law_error -/
abbrev N__law_error : List Str := ["call", "e", "some", "word", "fits"]
theorem sc__law_error : FnScope N__law_error ["call"] (defScope s__law_error) := ⟨rfl, rfl, rfl, by decide +kernel, rfl, by decide +kernel, by decide +kernel⟩
theorem bp__law_error : BindP "_law_error" s__law_error ["call"] := fun _ _ _ _ _ _ us hl => match us, hl with | [_], _ => rfl
def wordsN (n : Str) : Option D := if n = "InvalidNumber" then some (.str "number") else if n = "InvalidRow" then some (.str "row") else if n = "NotFound" then some (.str "none") else none
def words : Option Str → Option D
  | none => some (.str "")
  | some n => wordsN n
def suiteM (ae : Addr) (b_NotFound b_InvalidRow b_InvalidNumber : Bool) : M Fl := (sq (sSet 2 (eA lstD (aCons (eA tupD (aCons (eC (.str "number")) (aCons (eIsE 1 ae b_InvalidNumber) aNil))) (aCons (eA tupD (aCons (eC (.str "row")) (aCons (eIsE 1 ae b_InvalidRow) aNil))) (aCons (eA tupD (aCons (eC (.str "none")) (aCons (eIsE 1 ae b_NotFound) aNil))) aNil))))) (sRet (e1 (joinD " ") (frz (eLc (bnd (eVar 2) itL) (gTn 2 (gsCons (gN 3) (gsCons (gN 4) gsNil))) (tV (eVar 4)) (eVar 3) [3, 4])))))
theorem suite_InvalidNumber (ae : Addr) (k : Int × Int) : ∃ s', suiteM ae false false true ⟨(List.replicate N__law_error.length Sl.un).set 1 (.fn ae), k⟩ = .ok (.rt (.str "number")) s' ∧ s'.c = k := by
  have e : ((List.replicate N__law_error.length Sl.un).set 1 (.fn ae)) = [.un, .fn ae, .un, .un, .un] := rfl
  rw [e]
  simp [suiteM, sq, sSet, sRet, put, bnd, PL.ret, eA, aCons, aNil, eC, opt, tupD, lstD, lim, eIsE_at, e1, joinD, strsD, frz, eLc, itL, lcGo, gTn, gsCons, gsNil, gN, tV, asB, eVar, wp, wipeS, rstS, keepV, e2, addD]
  exact ⟨_, rfl, rfl⟩
theorem suite_InvalidRow (ae : Addr) (k : Int × Int) : ∃ s', suiteM ae false true false ⟨(List.replicate N__law_error.length Sl.un).set 1 (.fn ae), k⟩ = .ok (.rt (.str "row")) s' ∧ s'.c = k := by
  have e : ((List.replicate N__law_error.length Sl.un).set 1 (.fn ae)) = [.un, .fn ae, .un, .un, .un] := rfl
  rw [e]
  simp [suiteM, sq, sSet, sRet, put, bnd, PL.ret, eA, aCons, aNil, eC, opt, tupD, lstD, lim, eIsE_at, e1, joinD, strsD, frz, eLc, itL, lcGo, gTn, gsCons, gsNil, gN, tV, asB, eVar, wp, wipeS, rstS, keepV, e2, addD]
  exact ⟨_, rfl, rfl⟩
theorem suite_NotFound (ae : Addr) (k : Int × Int) : ∃ s', suiteM ae true false false ⟨(List.replicate N__law_error.length Sl.un).set 1 (.fn ae), k⟩ = .ok (.rt (.str "none")) s' ∧ s'.c = k := by
  have e : ((List.replicate N__law_error.length Sl.un).set 1 (.fn ae)) = [.un, .fn ae, .un, .un, .un] := rfl
  rw [e]
  simp [suiteM, sq, sSet, sRet, put, bnd, PL.ret, eA, aCons, aNil, eC, opt, tupD, lstD, lim, eIsE_at, e1, joinD, strsD, frz, eLc, itL, lcGo, gTn, gsCons, gsNil, gN, tV, asB, eVar, wp, wipeS, rstS, keepV, e2, addD]
  exact ⟨_, rfl, rfl⟩
theorem err_fact {X : Cx} (G : Gf X.K X.mg) (T : List (Addr × Str)) (qn : Str) (cdg : Value) : GivesN X T N__law_error "_law_error" (defScope s__law_error) (He.ga X.K "_law_error") cdg (defBody s__law_error) "call" qn words := by
  refine err_gives (i := 1) sc__law_error.nd rfl rfl rfl rfl G.g_BlendError ?_ ?_ ?_
  · intro nm A r hA hw
    replace hw : wordsN nm = some r := hw
    unfold wordsN at hw
    by_cases h_InvalidNumber : nm = "InvalidNumber"
    · subst h_InvalidNumber
      rw [G.g_InvalidNumber] at hA
      cases hA
      exact G.m_InvalidNumber
    rw [if_neg h_InvalidNumber] at hw
    by_cases h_InvalidRow : nm = "InvalidRow"
    · subst h_InvalidRow
      rw [G.g_InvalidRow] at hA
      cases hA
      exact G.m_InvalidRow
    rw [if_neg h_InvalidRow] at hw
    by_cases h_NotFound : nm = "NotFound"
    · subst h_NotFound
      rw [G.g_NotFound] at hA
      cases hA
      exact G.m_NotFound
    rw [if_neg h_NotFound] at hw
    cases hw
  · intro s H C r hK hw
    obtain ⟨K1, mg1, T1, c1, H1, F1, P1, W1⟩ := C
    cases hK
    cases hw
    exact ⟨(sRet (eC (.str ""))), (ds_one (ds_ret de_str)), fun k => ⟨_, rfl, rfl⟩⟩
  · intro nm A r hA hw s H C ae oe pn hK hM hz hf hot
    obtain ⟨K1, mg1, T1, c1, H1, F1, P1, W1⟩ := C
    cases hK
    cases hM
    replace hw : wordsN nm = some r := hw
    unfold wordsN at hw
    by_cases h_InvalidNumber : nm = "InvalidNumber"
    · subst h_InvalidNumber
      rw [if_pos rfl] at hw
      rw [G.g_InvalidNumber] at hA
      cases hA
      cases hw
      exact ⟨suiteM ae false false true, (ds_cons (ds_set sc__law_error.nd rfl (loc_of rfl) (de_lst (da_cons (de_tup (da_cons de_str (da_cons (de_isE G.e_InvalidNumber hz hf rfl G.b_isinstance boot_isinstance rfl (vis_of rfl) (pe_glob (v := .ref (He.ga X.K "InvalidNumber")) rfl G.g_InvalidNumber rfl) (fun _ h => h) G.k_InvalidNumber_InvalidNumber) da_nil))) (da_cons (de_tup (da_cons de_str (da_cons (de_isE G.e_InvalidNumber hz hf rfl G.b_isinstance boot_isinstance rfl (vis_of rfl) (pe_glob (v := .ref (He.ga X.K "InvalidRow")) rfl G.g_InvalidRow rfl) (fun _ h => h) G.k_InvalidNumber_InvalidRow) da_nil))) (da_cons (de_tup (da_cons de_str (da_cons (de_isE G.e_InvalidNumber hz hf rfl G.b_isinstance boot_isinstance rfl (vis_of rfl) (pe_glob (v := .ref (He.ga X.K "NotFound")) rfl G.g_NotFound rfl) (fun _ h => h) G.k_InvalidNumber_NotFound) da_nil))) da_nil))))) (ds_one (ds_ret (de_join (de_frz (df_lcH hot sc__law_error.nd (dih_lst rfl (de_var rfl (vis_of rfl))) (own := [("word", 3), ("fits", 4)]) (blkOk_by rfl) (by decide) (fun _ _ _ _ _ _ hq => (dg_tupH rfl (hot_blk hot hq) (dgs_cons (dg_name sc__law_error.nd rfl (loc_of rfl)) (dgs_cons (dg_name sc__law_error.nd rfl (loc_of rfl)) dgs_nil)))) (fun _ _ _ _ _ _ hq => (dts_one (dt_val (de_var rfl (vis_of rfl))))) (fun _ _ _ _ _ _ hq => (de_var rfl (vis_of rfl))))))))), suite_InvalidNumber ae⟩
    rw [if_neg h_InvalidNumber] at hw
    by_cases h_InvalidRow : nm = "InvalidRow"
    · subst h_InvalidRow
      rw [if_pos rfl] at hw
      rw [G.g_InvalidRow] at hA
      cases hA
      cases hw
      exact ⟨suiteM ae false true false, (ds_cons (ds_set sc__law_error.nd rfl (loc_of rfl) (de_lst (da_cons (de_tup (da_cons de_str (da_cons (de_isE G.e_InvalidRow hz hf rfl G.b_isinstance boot_isinstance rfl (vis_of rfl) (pe_glob (v := .ref (He.ga X.K "InvalidNumber")) rfl G.g_InvalidNumber rfl) (fun _ h => h) G.k_InvalidRow_InvalidNumber) da_nil))) (da_cons (de_tup (da_cons de_str (da_cons (de_isE G.e_InvalidRow hz hf rfl G.b_isinstance boot_isinstance rfl (vis_of rfl) (pe_glob (v := .ref (He.ga X.K "InvalidRow")) rfl G.g_InvalidRow rfl) (fun _ h => h) G.k_InvalidRow_InvalidRow) da_nil))) (da_cons (de_tup (da_cons de_str (da_cons (de_isE G.e_InvalidRow hz hf rfl G.b_isinstance boot_isinstance rfl (vis_of rfl) (pe_glob (v := .ref (He.ga X.K "NotFound")) rfl G.g_NotFound rfl) (fun _ h => h) G.k_InvalidRow_NotFound) da_nil))) da_nil))))) (ds_one (ds_ret (de_join (de_frz (df_lcH hot sc__law_error.nd (dih_lst rfl (de_var rfl (vis_of rfl))) (own := [("word", 3), ("fits", 4)]) (blkOk_by rfl) (by decide) (fun _ _ _ _ _ _ hq => (dg_tupH rfl (hot_blk hot hq) (dgs_cons (dg_name sc__law_error.nd rfl (loc_of rfl)) (dgs_cons (dg_name sc__law_error.nd rfl (loc_of rfl)) dgs_nil)))) (fun _ _ _ _ _ _ hq => (dts_one (dt_val (de_var rfl (vis_of rfl))))) (fun _ _ _ _ _ _ hq => (de_var rfl (vis_of rfl))))))))), suite_InvalidRow ae⟩
    rw [if_neg h_InvalidRow] at hw
    by_cases h_NotFound : nm = "NotFound"
    · subst h_NotFound
      rw [if_pos rfl] at hw
      rw [G.g_NotFound] at hA
      cases hA
      cases hw
      exact ⟨suiteM ae true false false, (ds_cons (ds_set sc__law_error.nd rfl (loc_of rfl) (de_lst (da_cons (de_tup (da_cons de_str (da_cons (de_isE G.e_NotFound hz hf rfl G.b_isinstance boot_isinstance rfl (vis_of rfl) (pe_glob (v := .ref (He.ga X.K "InvalidNumber")) rfl G.g_InvalidNumber rfl) (fun _ h => h) G.k_NotFound_InvalidNumber) da_nil))) (da_cons (de_tup (da_cons de_str (da_cons (de_isE G.e_NotFound hz hf rfl G.b_isinstance boot_isinstance rfl (vis_of rfl) (pe_glob (v := .ref (He.ga X.K "InvalidRow")) rfl G.g_InvalidRow rfl) (fun _ h => h) G.k_NotFound_InvalidRow) da_nil))) (da_cons (de_tup (da_cons de_str (da_cons (de_isE G.e_NotFound hz hf rfl G.b_isinstance boot_isinstance rfl (vis_of rfl) (pe_glob (v := .ref (He.ga X.K "NotFound")) rfl G.g_NotFound rfl) (fun _ h => h) G.k_NotFound_NotFound) da_nil))) da_nil))))) (ds_one (ds_ret (de_join (de_frz (df_lcH hot sc__law_error.nd (dih_lst rfl (de_var rfl (vis_of rfl))) (own := [("word", 3), ("fits", 4)]) (blkOk_by rfl) (by decide) (fun _ _ _ _ _ _ hq => (dg_tupH rfl (hot_blk hot hq) (dgs_cons (dg_name sc__law_error.nd rfl (loc_of rfl)) (dgs_cons (dg_name sc__law_error.nd rfl (loc_of rfl)) dgs_nil)))) (fun _ _ _ _ _ _ hq => (dts_one (dt_val (de_var rfl (vis_of rfl))))) (fun _ _ _ _ _ _ hq => (de_var rfl (vis_of rfl))))))))), suite_NotFound ae⟩
    rw [if_neg h_NotFound] at hw
    cases hw
section
variable {P : Program} {w : World} {K : PySem.W.Frag} {mg : Str → Option Value} {base : Heap} {T : List (Addr × Str)}
/-! ### _law_cup -/
abbrev N__law_cup : List Str := ["script", "cell"]
theorem sc__law_cup : FnScope N__law_cup ["script"] (defScope s__law_cup) := ⟨rfl, rfl, rfl, by decide +kernel, rfl, by decide +kernel, by decide +kernel⟩
theorem bp__law_cup : BindP "_law_cup" s__law_cup ["script"] := fun _ _ _ _ _ _ us hl => match us, hl with | [_], _ => rfl
theorem ok__law_cup (G : Gf K mg) : OkD P w K mg base 1 "_law_cup" ["script"] (spCup K) := okD_of (k := 0) G.d__law_cup sc__law_cup bp__law_cup cup_len fun cdv A outer s H vs Q E _ hr h => by
  obtain ⟨a, ns, rfl, hS, hl, hq⟩ := h
  exact ⟨_, pss_cons (ps_set sc__law_cup.nd rfl (loc_of rfl) (pe_callB call_abs rfl G.b_abs boot_abs (pa_cons (pe_ix ix_list (pe_op op_cat (pe_callTy call_list_of rfl G.b_list boot_list (pa_cons (pe_var rfl (vis_of rfl)) pa_nil)) (pe_lst (pa_cons pe_int pa_nil))) pe_int (fun _ _ => rfl)) pa_nil))) (pss_one (ps_ret (pe_lst (pa_cons (pe_ifExp (pt_cmpR op_ge (pe_var rfl (vis_of rfl)) (pe_op op_pow pe_int pe_int) (nomark _)) (pe_op op_fdiv (pe_var rfl (vis_of rfl)) pe_int) pe_int) (pa_cons (pe_op op_add (pe_op op_mod (pe_callTy call_intI rfl G.b_int boot_int (pa_cons (pe_op op_add (pe_op op_mul (pe_var rfl (vis_of rfl)) pe_int) pe_int) pa_nil)) pe_int) pe_int) pa_nil))))), rd_of hS hl hq⟩
/-! ### _law_roll -/
abbrev N__law_roll : List Str := ["cup", "many", "found", "deep"]
theorem sc__law_roll : FnScope N__law_roll ["cup", "many"] (defScope s__law_roll) := ⟨rfl, rfl, rfl, by decide +kernel, rfl, by decide +kernel, by decide +kernel⟩
theorem bp__law_roll : BindP "_law_roll" s__law_roll ["cup", "many"] := fun _ _ _ _ _ _ us hl => match us, hl with | [_, _], _ => rfl
theorem ok__law_roll (G : Gf K mg)  : OkD P w K mg base 1 "_law_roll" ["cup", "many"] (spD K mg T true 1 D__law_roll) :=
  okD_den (k := 0) G.d__law_roll sc__law_roll bp__law_roll rfl fun cdv A outer s H E c F0 hc hr => (ds_cons (ds_if (dt_cmp (fun _ _ => op_gtD) (de_cup (j := false) rfl (vis_of rfl) (fun _ _ => rfl)) de_int (nomark _)) (ds_cons (ds_set sc__law_roll.nd rfl (loc_of rfl) (de_bin (fun _ _ => op_modD) (de_callTy (fun _ _ => cr_intD) rfl G.b_int boot_int (da_cons (de_cup (j := false) rfl (vis_of rfl) (fun _ _ => rfl)) da_nil)) (de_var rfl (vis_of rfl)))) (ds_cons (ds_cup (j := false) rfl (vis_of rfl) (de_bin (fun _ _ => op_fdivD) (de_cup (j := false) rfl (vis_of rfl) (fun _ _ => rfl)) (de_var rfl (vis_of rfl)))) (ds_one (ds_ret (de_var rfl (vis_of rfl)))))) ds_nil) (ds_cons (ds_cup (j := true) rfl (vis_of rfl) (de_bin (fun _ _ => op_modD) (de_callTy (fun _ _ => cr_intD) rfl G.b_int boot_int (da_cons (de_bin (fun _ _ => op_addD rfl) (de_bin (fun _ _ => op_mulD rfl) (de_cup (j := true) rfl (vis_of rfl) (fun _ _ => rfl)) de_int) de_int) da_nil)) de_int)) (ds_cons (ds_set sc__law_roll.nd rfl (loc_of rfl) (de_bin (fun _ _ => op_modD) (de_callTy (fun _ _ => cr_intD) rfl G.b_int boot_int (da_cons (de_bin (fun _ _ => op_mulD rfl) (de_cup (j := true) rfl (vis_of rfl) (fun _ _ => rfl)) (de_bin (fun _ _ => op_addD rfl) (de_cup (j := true) rfl (vis_of rfl) (fun _ _ => rfl)) de_int)) da_nil)) de_int)) (ds_one (ds_ret (de_bin (fun _ _ => op_modD) (de_callTy (fun _ _ => cr_intD) rfl G.b_int boot_int (da_cons (de_bin (fun _ _ => op_fdivD) (de_var rfl (vis_of rfl)) de_int) da_nil)) (de_var rfl (vis_of rfl))))))))
/-! ### _law_some -/
abbrev N__law_some : List Str := ["cup", "things"]
theorem sc__law_some : FnScope N__law_some ["cup", "things"] (defScope s__law_some) := ⟨rfl, rfl, rfl, by decide +kernel, rfl, by decide +kernel, by decide +kernel⟩
theorem bp__law_some : BindP "_law_some" s__law_some ["cup", "things"] := fun _ _ _ _ _ _ us hl => match us, hl with | [_, _], _ => rfl
theorem ok__law_some (G : Gf K mg) (o__law_roll : OkD P w K mg base 1 "_law_roll" ["cup", "many"] (spD K mg T true 1 D__law_roll)) : OkD P w K mg base 2 "_law_some" ["cup", "things"] (spD K mg T true 1 D__law_some) :=
  okD_den (k := 1) G.d__law_some sc__law_some bp__law_some rfl fun cdv A outer s H E c F0 hc hr => (ds_one (ds_ret (de_pidx rfl rfl (vis_of rfl) (de_callO o__law_roll hr (by decide) rfl rfl rfl rfl dx_takes (argn_cons argn_nil) (dak_cup rfl (vis_of rfl) (da_cons (de_plen rfl rfl G.b_len boot_len rfl (vis_of rfl)) da_nil))) (fun _ _ => rfl))))
/-! ### _law_divisor -/
abbrev N__law_divisor : List Str := ["one", "other", "turn"]
theorem sc__law_divisor : FnScope N__law_divisor ["one", "other"] (defScope s__law_divisor) := ⟨rfl, rfl, rfl, by decide +kernel, rfl, by decide +kernel, by decide +kernel⟩
theorem bp__law_divisor : BindP "_law_divisor" s__law_divisor ["one", "other"] := fun _ _ _ _ _ _ us hl => match us, hl with | [_, _], _ => rfl
theorem ok__law_divisor (G : Gf K mg)  : OkD P w K mg base 1 "_law_divisor" ["one", "other"] (spD K mg T false 2 D__law_divisor) :=
  okD_den (k := 0) G.d__law_divisor sc__law_divisor bp__law_divisor rfl fun cdv A outer s H E c F0 hc hr => (ds_cons (ds_for dx_passes rfl (di_range1 rfl G.b_range (da_cons de_int da_nil)) (dg_name sc__law_divisor.nd rfl (loc_of rfl)) (ds_cons (ds_if (dt_cmp (fun _ _ => op_eqD' rfl (u64 hr)) (de_var rfl (vis_of rfl)) de_int (nomark _)) (ds_one (ds_ret (de_var rfl (vis_of rfl)))) ds_nil) (ds_one (ds_par2 rfl sc__law_divisor.nd rfl rfl (by decide) rfl rfl (dos_val (de_var rfl (vis_of rfl)) (dos_val (de_bin (fun _ _ => op_modD) (de_callTy (fun _ _ => cr_intD) rfl G.b_int boot_int (da_cons (de_var rfl (vis_of rfl)) da_nil)) (de_var rfl (vis_of rfl))) dos_nil)) rfl)))) (ds_one (ds_ret (de_var rfl (vis_of rfl)))))
/-! ### _law_plain -/
abbrev N__law_plain : List Str := ["top", "bottom", "shared"]
theorem sc__law_plain : FnScope N__law_plain ["top", "bottom"] (defScope s__law_plain) := ⟨rfl, rfl, rfl, by decide +kernel, rfl, by decide +kernel, by decide +kernel⟩
theorem bp__law_plain : BindP "_law_plain" s__law_plain ["top", "bottom"] := fun _ _ _ _ _ _ us hl => match us, hl with | [_, _], _ => rfl
theorem ok__law_plain (G : Gf K mg) (o__law_divisor : OkD P w K mg base 1 "_law_divisor" ["one", "other"] (spD K mg T false 2 D__law_divisor)) : OkD P w K mg base 2 "_law_plain" ["top", "bottom"] (spD K mg T false 2 D__law_plain) :=
  okD_den (k := 1) G.d__law_plain sc__law_plain bp__law_plain rfl fun cdv A outer s H E c F0 hc hr => (ds_cons (ds_set sc__law_plain.nd rfl (loc_of rfl) (de_callO o__law_divisor hr (by decide) rfl rfl rfl rfl dx_takes (argn_cons (argn_cons argn_nil)) (dak_none (da_cons (de_callB (fun _ _ => cr_absD) rfl G.b_abs boot_abs (da_cons (de_var rfl (vis_of rfl)) da_nil)) (da_cons (de_var rfl (vis_of rfl)) da_nil))))) (ds_one (ds_ret (de_tup (da_cons (de_bin (fun _ _ => op_fdivD) (de_var rfl (vis_of rfl)) (de_var rfl (vis_of rfl))) (da_cons (de_bin (fun _ _ => op_fdivD) (de_var rfl (vis_of rfl)) (de_var rfl (vis_of rfl))) da_nil))))))
/-! ### _law_whole_of -/
abbrev N__law_whole_of : List Str := ["ground", "whole"]
theorem sc__law_whole_of : FnScope N__law_whole_of ["ground", "whole"] (defScope s__law_whole_of) := ⟨rfl, rfl, rfl, by decide +kernel, rfl, by decide +kernel, by decide +kernel⟩
theorem bp__law_whole_of : BindP "_law_whole_of" s__law_whole_of ["ground", "whole"] := fun _ _ _ _ _ _ us hl => match us, hl with | [_, _], _ => rfl
theorem ok__law_whole_of (G : Gf K mg)  : OkD P w K mg base 1 "_law_whole_of" ["ground", "whole"] (spD K mg T false 2 D__law_whole_of) :=
  okD_den (k := 0) G.d__law_whole_of sc__law_whole_of bp__law_whole_of rfl fun cdv A outer s H E c F0 hc hr => (ds_one (ds_ret (de_if (dt_cmp (fun _ _ => op_neD' rfl (u64 hr)) (de_var rfl (vis_of rfl)) de_int (nomark _)) (de_bin (fun _ _ => op_modD) (de_callTy (fun _ _ => cr_intD) rfl G.b_int boot_int (da_cons (de_var rfl (vis_of rfl)) da_nil)) (de_var rfl (vis_of rfl))) (de_tup (da_cons (de_var rfl (vis_of rfl)) (da_cons de_int da_nil))))))
/-! ### _law_row -/
abbrev N__law_row : List Str := ["cup", "ground", "many", "begin", "some", "place"]
theorem sc__law_row : FnScope N__law_row ["cup", "ground", "many", "begin"] (defScope s__law_row) := ⟨rfl, rfl, rfl, by decide +kernel, rfl, by decide +kernel, by decide +kernel⟩
theorem bp__law_row : BindP "_law_row" s__law_row ["cup", "ground", "many", "begin"] := fun _ _ _ _ _ _ us hl => match us, hl with | [_, _, _, _], _ => rfl
def m__law_row : M Fl := (sq (sOwn 4 (fLst aNil)) (sq (sFor (bnd (aCons (eVar 2) aNil) rng1) (gN 5) (sIf (tV (e2 neD (eVar 1) (eC (.int 0)))) (sApp 4 (eCall (some 0) D__law_roll (aCons (eVar 1) aNil))) (sApp 4 (eCall none D__law_plain (aCons (e2 subD (eCall (some 0) D__law_roll (aCons (eC (.int 7)) aNil)) (eC (.int 3))) (aCons (e2 addD (eC (.int 1)) (eCall (some 0) D__law_roll (aCons (eC (.int 3)) aNil))) aNil)))))) (sRet (e2 addD (e2 mulD (eA tupD (aCons (eCall none D__law_whole_of (aCons (eVar 1) (aCons (eC (.int 0)) aNil))) aNil)) (eVar 3)) (eA tupOfD (aCons (pkF 4 (two (bnd (eVar 3) asI) (ret none)) fun d y => sliD y.1 y.2 d) aNil))))))
def D__law_row : Dn := denOf N__law_row.length true m__law_row
theorem ok__law_row (G : Gf K mg) (o__law_plain : OkD P w K mg base 2 "_law_plain" ["top", "bottom"] (spD K mg T false 2 D__law_plain)) (o__law_roll : OkD P w K mg base 1 "_law_roll" ["cup", "many"] (spD K mg T true 1 D__law_roll)) (o__law_whole_of : OkD P w K mg base 1 "_law_whole_of" ["ground", "whole"] (spD K mg T false 2 D__law_whole_of)) : OkD P w K mg base 3 "_law_row" ["cup", "ground", "many", "begin"] (spD K mg T true 3 D__law_row) :=
  okD_den (k := 2) G.d__law_row sc__law_row bp__law_row rfl fun cdv A outer s H E c F0 hc hr => (ds_cons (ds_own sc__law_row.nd rfl (loc_of rfl) (df_lst da_nil)) (ds_cons (ds_for dx_passes rfl (di_range1 rfl G.b_range (da_cons (de_var rfl (vis_of rfl)) da_nil)) (dg_name sc__law_row.nd rfl (loc_of rfl)) (ds_one (ds_if (dt_cmp (fun _ _ => op_neD' rfl (u64 hr)) (de_var rfl (vis_of rfl)) de_int (nomark _)) (ds_one (ds_app rfl (vis_of rfl) (de_callO o__law_roll hr (by decide) rfl rfl rfl rfl dx_takes (argn_cons argn_nil) (dak_cup rfl (vis_of rfl) (da_cons (de_var rfl (vis_of rfl)) da_nil))))) (ds_one (ds_app rfl (vis_of rfl) (de_callO o__law_plain hr (by decide) rfl rfl rfl rfl dx_takes (argn_cons (argn_cons argn_nil)) (dak_none (da_cons (de_bin (fun _ _ => op_subD) (de_callO o__law_roll hr (by decide) rfl rfl rfl rfl dx_takes (argn_cons argn_nil) (dak_cup rfl (vis_of rfl) (da_cons de_int da_nil))) de_int) (da_cons (de_bin (fun _ _ => op_addD rfl) de_int (de_callO o__law_roll hr (by decide) rfl rfl rfl rfl dx_takes (argn_cons argn_nil) (dak_cup rfl (vis_of rfl) (da_cons de_int da_nil)))) da_nil))))))))) (ds_one (ds_ret (de_bin (fun _ _ => op_addD rfl) (de_bin (fun _ _ => op_mulD rfl) (de_tup (da_cons (de_callO o__law_whole_of hr (by decide) rfl rfl rfl rfl dx_takes (argn_cons (argn_cons argn_nil)) (dak_none (da_cons (de_var rfl (vis_of rfl)) (da_cons de_int da_nil)))) da_nil)) (de_var rfl (vis_of rfl))) (de_callTy (fun _ _ => cr_tupOfD rfl) rfl G.b_tuple boot_tuple (da_cons (de_psli rfl rfl (vis_of rfl) (do_some (de_var rfl (vis_of rfl))) do_none) da_nil)))))))
/-! ### is_whole -/
abbrev N_is_whole : List Str := ["value", "low", "high"]
theorem sc_is_whole : FnScope N_is_whole ["value", "low", "high"] (defScope s_is_whole) := ⟨rfl, rfl, rfl, by decide +kernel, rfl, by decide +kernel, by decide +kernel⟩
theorem bp_is_whole : BindP "is_whole" s_is_whole ["value", "low", "high"] := fun _ _ _ _ _ _ us hl => match us, hl with | [_, _, _], _ => rfl
theorem ok_is_whole (G : Gf K mg)  : OkD P w K mg base 1 "is_whole" ["value", "low", "high"] (spD K mg T false 3 D_is_whole) :=
  okD_den (k := 0) G.d_is_whole sc_is_whole bp_is_whole rfl fun cdv A outer s H E c F0 hc hr => (ds_one (ds_ret (de_and (de_isi kit_int rfl G.b_isinstance boot_isinstance rfl G.b_int boot_int rfl (de_var rfl (vis_of rfl))) (de_and (de_not (de_isi kit_bool rfl G.b_isinstance boot_isinstance rfl G.b_bool boot_bool rfl (de_var rfl (vis_of rfl)))) (de_one (de_chain (fun _ _ => op_leD) (fun _ _ => op_leD) (de_var rfl (vis_of rfl)) (de_var rfl (vis_of rfl)) (de_var rfl (vis_of rfl))))))))
/-! ### is_ground -/
abbrev N_is_ground : List Str := ["value"]
theorem sc_is_ground : FnScope N_is_ground ["value"] (defScope s_is_ground) := ⟨rfl, rfl, rfl, by decide +kernel, rfl, by decide +kernel, by decide +kernel⟩
theorem bp_is_ground : BindP "is_ground" s_is_ground ["value"] := fun _ _ _ _ _ _ us hl => match us, hl with | [_], _ => rfl
theorem ok_is_ground (G : Gf K mg) (o_is_whole : OkD P w K mg base 1 "is_whole" ["value", "low", "high"] (spD K mg T false 3 D_is_whole)) : OkD P w K mg base 2 "is_ground" ["value"] (spD K mg T false 1 D_is_ground) :=
  okD_den (k := 1) G.d_is_ground sc_is_ground bp_is_ground rfl fun cdv A outer s H E c F0 hc hr => (ds_one (ds_ret (de_and (de_callO o_is_whole hr (by decide) rfl rfl rfl rfl dx_takes (argn_cons (argn_cons (argn_cons argn_nil))) (dak_none (da_cons (de_var rfl (vis_of rfl)) (da_cons de_int (da_cons de_int da_nil))))) (de_one (de_or (de_cmp (fun _ _ => op_eqD' rfl (u64 hr)) (de_var rfl (vis_of rfl)) de_int (nomark _)) (de_one (de_inG rfl rfl G.u_PRIMES G.v_PRIMES (de_var rfl (vis_of rfl)))))))))
/-! ### need_ground -/
abbrev N_need_ground : List Str := ["ground"]
theorem sc_need_ground : FnScope N_need_ground ["ground"] (defScope s_need_ground) := ⟨rfl, rfl, rfl, by decide +kernel, rfl, by decide +kernel, by decide +kernel⟩
theorem bp_need_ground : BindP "need_ground" s_need_ground ["ground"] := fun _ _ _ _ _ _ us hl => match us, hl with | [_], _ => rfl
theorem ok_need_ground (G : Gf K mg) (o_is_ground : OkD P w K mg base 2 "is_ground" ["value"] (spD K mg T false 1 D_is_ground)) : OkD P w K mg base 3 "need_ground" ["ground"] (spD K mg T false 1 D_need_ground) :=
  okD_den (k := 2) G.d_need_ground sc_need_ground bp_need_ground rfl fun cdv A outer s H E c F0 hc hr => (ds_one (ds_if (dt_not (dt_val (de_callO o_is_ground hr (by decide) rfl rfl rfl rfl dx_takes (argn_cons argn_nil) (dak_none (da_cons (de_var rfl (vis_of rfl)) da_nil))))) (ds_one (ds_raiseO G.x_InvalidNumber rfl dx_takes rfl rfl)) ds_nil))
/-! ### is_tuple_of -/
abbrev N_is_tuple_of : List Str := ["value", "low", "high"]
theorem sc_is_tuple_of : FnScope N_is_tuple_of ["value", "low", "high"] (defScope s_is_tuple_of) := ⟨rfl, rfl, rfl, by decide +kernel, rfl, by decide +kernel, by decide +kernel⟩
theorem bp_is_tuple_of : BindP "is_tuple_of" s_is_tuple_of ["value", "low", "high"] := fun _ _ _ _ _ _ us hl => match us, hl with | [_, _, _], _ => rfl
theorem ok_is_tuple_of (G : Gf K mg)  : OkD P w K mg base 1 "is_tuple_of" ["value", "low", "high"] (spD K mg T false 3 D_is_tuple_of) :=
  okD_den (k := 0) G.d_is_tuple_of sc_is_tuple_of bp_is_tuple_of rfl fun cdv A outer s H E c F0 hc hr => (ds_one (ds_ret (de_and (de_isi kit_tup rfl G.b_isinstance boot_isinstance rfl G.b_tuple boot_tuple rfl (de_var rfl (vis_of rfl))) (de_one (de_chain (fun _ _ => op_leD) (fun _ _ => op_leD) (de_var rfl (vis_of rfl)) (de_plen rfl rfl G.b_len boot_len rfl (vis_of rfl)) (de_var rfl (vis_of rfl)))))))
/-! ### fits_ground -/
abbrev N_fits_ground : List Str := ["ground", "value"]
theorem sc_fits_ground : FnScope N_fits_ground ["ground", "value"] (defScope s_fits_ground) := ⟨rfl, rfl, rfl, by decide +kernel, rfl, by decide +kernel, by decide +kernel⟩
theorem bp_fits_ground : BindP "fits_ground" s_fits_ground ["ground", "value"] := fun _ _ _ _ _ _ us hl => match us, hl with | [_, _], _ => rfl
theorem ok_fits_ground (G : Gf K mg) (o_is_tuple_of : OkD P w K mg base 1 "is_tuple_of" ["value", "low", "high"] (spD K mg T false 3 D_is_tuple_of)) (o_is_whole : OkD P w K mg base 1 "is_whole" ["value", "low", "high"] (spD K mg T false 3 D_is_whole)) : OkD P w K mg base 2 "fits_ground" ["ground", "value"] (spD K mg T false 2 D_fits_ground) :=
  okD_den (k := 1) G.d_fits_ground sc_fits_ground bp_fits_ground rfl fun cdv A outer s H E c F0 hc hr => (ds_cons (ds_if (dt_cmp (fun _ _ => op_neD' rfl (u64 hr)) (de_var rfl (vis_of rfl)) de_int (nomark _)) (ds_one (ds_ret (de_callO o_is_whole hr (by decide) rfl rfl rfl rfl dx_takes (argn_cons (argn_cons (argn_cons argn_nil))) (dak_none (da_cons (de_var rfl (vis_of rfl)) (da_cons de_int (da_cons (de_bin (fun _ _ => op_subD) (de_var rfl (vis_of rfl)) de_int) da_nil))))))) ds_nil) (ds_cons (ds_if (dw_pt (dw_or (dt_not (dt_val (de_callO o_is_tuple_of hr (by decide) rfl rfl rfl rfl dx_takes (argn_cons (argn_cons (argn_cons argn_nil))) (dak_none (da_cons (de_var rfl (vis_of rfl)) (da_cons de_int (da_cons de_int da_nil))))))) (dw_or (dt_not (dt_val (de_callO o_is_whole hr (by decide) rfl rfl rfl rfl dx_takes (argn_cons (argn_cons (argn_cons argn_nil))) (dak_none (da_cons (de_pidx rfl rfl (vis_of rfl) de_int (fun _ _ => rfl)) (da_cons (de_un (fun _ _ => un_negD) (de_gintO G.i_GREAT rfl)) (da_cons (de_gintO G.i_GREAT rfl) da_nil))))))) (dw_or1 (dt_not (dt_val (de_callO o_is_whole hr (by decide) rfl rfl rfl rfl dx_takes (argn_cons (argn_cons (argn_cons argn_nil))) (dak_none (da_cons (de_pidx rfl rfl (vis_of rfl) de_int (fun _ _ => rfl)) (da_cons de_int (da_cons (de_gintO G.i_GREAT rfl) da_nil))))))))))) (ds_one (ds_ret de_bl)) ds_nil) (ds_one (ds_ret (de_cmp (fun _ _ => op_eqD' rfl (u64 hr)) (de_bfun (fun _ _ => cr_gcdD) rfl G.f_gcd (da_cons (de_pidx rfl rfl (vis_of rfl) de_int (fun _ _ => rfl)) (da_cons (de_pidx rfl rfl (vis_of rfl) de_int (fun _ _ => rfl)) da_nil))) de_int (nomark _))))))
/-! ### fits_power_row -/
abbrev N_fits_power_row : List Str := ["ground", "value", "one"]
theorem sc_fits_power_row : FnScope N_fits_power_row ["ground", "value"] (defScope s_fits_power_row) := ⟨rfl, rfl, rfl, by decide +kernel, rfl, by decide +kernel, by decide +kernel⟩
theorem bp_fits_power_row : BindP "fits_power_row" s_fits_power_row ["ground", "value"] := fun _ _ _ _ _ _ us hl => match us, hl with | [_, _], _ => rfl
def m_fits_power_row : M Fl := (sRet (eAnd (eCall none D_is_tuple_of (aCons (eVar 1) (aCons (eC (.int 3)) (aCons (eC (.int 16)) aNil)))) (eA allD (aCons (frz (eLc (bnd (eVar 1) itD) (gN 2) (ret true) (eCall none D_fits_ground (aCons (eVar 0) (aCons (eVar 2) aNil))) [2])) aNil))))
def D_fits_power_row : Dn := denOf N_fits_power_row.length false m_fits_power_row
theorem ok_fits_power_row (G : Gf K mg) (o_fits_ground : OkD P w K mg base 2 "fits_ground" ["ground", "value"] (spD K mg T false 2 D_fits_ground)) (o_is_tuple_of : OkD P w K mg base 1 "is_tuple_of" ["value", "low", "high"] (spD K mg T false 3 D_is_tuple_of)) : OkD P w K mg base 3 "fits_power_row" ["ground", "value"] (spD K mg T false 2 D_fits_power_row) :=
  okD_den (k := 2) G.d_fits_power_row sc_fits_power_row bp_fits_power_row rfl fun cdv A outer s H E c F0 hc hr => (ds_one (ds_ret (de_and (de_callO o_is_tuple_of hr (by decide) rfl rfl rfl rfl dx_takes (argn_cons (argn_cons (argn_cons argn_nil))) (dak_none (da_cons (de_var rfl (vis_of rfl)) (da_cons de_int (da_cons de_int da_nil))))) (de_one (de_callB (fun _ _ => cr_allD rfl) rfl G.b_all boot_all (da_cons (de_frz (df_lc rfl sc_fits_power_row.nd (di_seq rfl (de_var rfl (vis_of rfl))) (own := [("one", 2)]) (blkOk_by rfl) (by decide) (fun _ _ _ _ _ => (dg_name sc_fits_power_row.nd rfl (loc_of rfl))) (fun _ _ _ _ _ => dts_nil) (fun _ _ _ _ _ => (de_callO o_fits_ground hr (by decide) rfl rfl rfl rfl tk_nw (argn_cons (argn_cons argn_nil)) (dak_none (da_cons (de_var rfl (vis_of rfl)) (da_cons (de_var rfl (vis_of rfl)) da_nil))))))) da_nil))))))
/-! ### is_power_row -/
abbrev N_is_power_row : List Str := ["ground", "value"]
theorem sc_is_power_row : FnScope N_is_power_row ["ground", "value"] (defScope s_is_power_row) := ⟨rfl, rfl, rfl, by decide +kernel, rfl, by decide +kernel, by decide +kernel⟩
theorem bp_is_power_row : BindP "is_power_row" s_is_power_row ["ground", "value"] := fun _ _ _ _ _ _ us hl => match us, hl with | [_, _], _ => rfl
def m_is_power_row : M Fl := (sq (sExp (eCall none D_need_ground (aCons (eVar 0) aNil))) (sRet (eCall none D_fits_power_row (aCons (eVar 0) (aCons (eVar 1) aNil)))))
def D_is_power_row : Dn := denOf N_is_power_row.length false m_is_power_row
theorem ok_is_power_row (G : Gf K mg) (o_fits_power_row : OkD P w K mg base 3 "fits_power_row" ["ground", "value"] (spD K mg T false 2 D_fits_power_row)) (o_need_ground : OkD P w K mg base 3 "need_ground" ["ground"] (spD K mg T false 1 D_need_ground)) : OkD P w K mg base 4 "is_power_row" ["ground", "value"] (spD K mg T false 2 D_is_power_row) :=
  okD_den (k := 3) G.d_is_power_row sc_is_power_row bp_is_power_row rfl fun cdv A outer s H E c F0 hc hr => (ds_cons (ds_exp (de_callO o_need_ground hr (by decide) rfl rfl rfl rfl dx_takes (argn_cons argn_nil) (dak_none (da_cons (de_var rfl (vis_of rfl)) da_nil)))) (ds_one (ds_ret (de_callO o_fits_power_row hr (by decide) rfl rfl rfl rfl dx_takes (argn_cons (argn_cons argn_nil)) (dak_none (da_cons (de_var rfl (vis_of rfl)) (da_cons (de_var rfl (vis_of rfl)) da_nil)))))))
/-! ### need_power_row -/
abbrev N_need_power_row : List Str := ["ground", "row"]
theorem sc_need_power_row : FnScope N_need_power_row ["ground", "row"] (defScope s_need_power_row) := ⟨rfl, rfl, rfl, by decide +kernel, rfl, by decide +kernel, by decide +kernel⟩
theorem bp_need_power_row : BindP "need_power_row" s_need_power_row ["ground", "row"] := fun _ _ _ _ _ _ us hl => match us, hl with | [_, _], _ => rfl
def m_need_power_row : M Fl := (sq (sExp (eCall none D_need_ground (aCons (eVar 0) aNil))) (sIf (tNot (tV (eCall none D_fits_power_row (aCons (eVar 0) (aCons (eVar 1) aNil))))) (exc "InvalidRow") (ret .nx)))
def D_need_power_row : Dn := denOf N_need_power_row.length false m_need_power_row
theorem ok_need_power_row (G : Gf K mg) (o_fits_power_row : OkD P w K mg base 3 "fits_power_row" ["ground", "value"] (spD K mg T false 2 D_fits_power_row)) (o_need_ground : OkD P w K mg base 3 "need_ground" ["ground"] (spD K mg T false 1 D_need_ground)) : OkD P w K mg base 4 "need_power_row" ["ground", "row"] (spD K mg T false 2 D_need_power_row) :=
  okD_den (k := 3) G.d_need_power_row sc_need_power_row bp_need_power_row rfl fun cdv A outer s H E c F0 hc hr => (ds_cons (ds_exp (de_callO o_need_ground hr (by decide) rfl rfl rfl rfl dx_takes (argn_cons argn_nil) (dak_none (da_cons (de_var rfl (vis_of rfl)) da_nil)))) (ds_one (ds_if (dt_not (dt_val (de_callO o_fits_power_row hr (by decide) rfl rfl rfl rfl dx_takes (argn_cons (argn_cons argn_nil)) (dak_none (da_cons (de_var rfl (vis_of rfl)) (da_cons (de_var rfl (vis_of rfl)) da_nil)))))) (ds_one (ds_raiseO G.x_InvalidRow rfl dx_takes rfl rfl)) ds_nil)))
/-! ### need_like -/
abbrev N_need_like : List Str := ["ground", "row", "second"]
theorem sc_need_like : FnScope N_need_like ["ground", "row", "second"] (defScope s_need_like) := ⟨rfl, rfl, rfl, by decide +kernel, rfl, by decide +kernel, by decide +kernel⟩
theorem bp_need_like : BindP "need_like" s_need_like ["ground", "row", "second"] := fun _ _ _ _ _ _ us hl => match us, hl with | [_, _, _], _ => rfl
def m_need_like : M Fl := (sIf (tOr (tNot (tV (eCall none D_fits_power_row (aCons (eVar 0) (aCons (eVar 2) aNil))))) (tV (e2 neD (pkF 2 (ret ()) fun d _ => lenD [d]) (pkF 1 (ret ()) fun d _ => lenD [d])))) (exc "InvalidRow") (ret .nx))
def D_need_like : Dn := denOf N_need_like.length false m_need_like
theorem ok_need_like (G : Gf K mg) (o_fits_power_row : OkD P w K mg base 3 "fits_power_row" ["ground", "value"] (spD K mg T false 2 D_fits_power_row)) : OkD P w K mg base 4 "need_like" ["ground", "row", "second"] (spD K mg T false 3 D_need_like) :=
  okD_den (k := 3) G.d_need_like sc_need_like bp_need_like rfl fun cdv A outer s H E c F0 hc hr => (ds_one (ds_if (dw_pt (dw_or (dt_not (dt_val (de_callO o_fits_power_row hr (by decide) rfl rfl rfl rfl dx_takes (argn_cons (argn_cons argn_nil)) (dak_none (da_cons (de_var rfl (vis_of rfl)) (da_cons (de_var rfl (vis_of rfl)) da_nil)))))) (dw_or1 (dt_cmp (fun _ _ => op_neD' rfl (u64 hr)) (de_plen rfl rfl G.b_len boot_len rfl (vis_of rfl)) (de_plen rfl rfl G.b_len boot_len rfl (vis_of rfl)) (nomark _))))) (ds_one (ds_raiseO G.x_InvalidRow rfl dx_takes rfl rfl)) ds_nil))
/-! ### number_of -/
abbrev N_number_of : List Str := ["ground", "whole"]
theorem sc_number_of : FnScope N_number_of ["ground", "whole"] (defScope s_number_of) := ⟨rfl, rfl, rfl, by decide +kernel, rfl, by decide +kernel, by decide +kernel⟩
theorem bp_number_of : BindP "number_of" s_number_of ["ground", "whole"] := fun _ _ _ _ _ _ us hl => match us, hl with | [_, _], _ => rfl
theorem ok_number_of (G : Gf K mg)  : OkD P w K mg base 1 "number_of" ["ground", "whole"] (spD K mg T false 2 D_number_of) :=
  okD_den (k := 0) G.d_number_of sc_number_of bp_number_of rfl fun cdv A outer s H E c F0 hc hr => (ds_one (ds_ret (de_if (dt_cmp (fun _ _ => op_eqD' rfl (u64 hr)) (de_var rfl (vis_of rfl)) de_int (nomark _)) (de_tup (da_cons (de_var rfl (vis_of rfl)) (da_cons de_int da_nil))) (de_bin (fun _ _ => op_modD) (de_var rfl (vis_of rfl)) (de_var rfl (vis_of rfl))))))
/-! ### ratio -/
abbrev N_ratio : List Str := ["top", "bottom", "shared"]
theorem sc_ratio : FnScope N_ratio ["top", "bottom"] (defScope s_ratio) := ⟨rfl, rfl, rfl, by decide +kernel, rfl, by decide +kernel, by decide +kernel⟩
theorem bp_ratio : BindP "ratio" s_ratio ["top", "bottom"] := fun _ _ _ _ _ _ us hl => match us, hl with | [_, _], _ => rfl
theorem ok_ratio (G : Gf K mg)  : OkD P w K mg base 1 "ratio" ["top", "bottom"] (spD K mg T false 2 D_ratio) :=
  okD_den (k := 0) G.d_ratio sc_ratio bp_ratio rfl fun cdv A outer s H E c F0 hc hr => (ds_cons (ds_set sc_ratio.nd rfl (loc_of rfl) (de_bfun (fun _ _ => cr_gcdD) rfl G.f_gcd (da_cons (de_var rfl (vis_of rfl)) (da_cons (de_var rfl (vis_of rfl)) da_nil)))) (ds_one (ds_ret (de_if (dt_cmp (fun _ _ => op_gtD) (de_var rfl (vis_of rfl)) de_int (nomark _)) (de_tup (da_cons (de_bin (fun _ _ => op_fdivD) (de_var rfl (vis_of rfl)) (de_var rfl (vis_of rfl))) (da_cons (de_bin (fun _ _ => op_fdivD) (de_var rfl (vis_of rfl)) (de_var rfl (vis_of rfl))) da_nil))) (de_tup (da_cons (de_bin (fun _ _ => op_fdivD) (de_un (fun _ _ => un_negD) (de_var rfl (vis_of rfl))) (de_var rfl (vis_of rfl))) (da_cons (de_bin (fun _ _ => op_fdivD) (de_un (fun _ _ => un_negD) (de_var rfl (vis_of rfl))) (de_var rfl (vis_of rfl))) da_nil)))))))
/-! ### sum_of -/
abbrev N_sum_of : List Str := ["ground", "one", "other"]
theorem sc_sum_of : FnScope N_sum_of ["ground", "one", "other"] (defScope s_sum_of) := ⟨rfl, rfl, rfl, by decide +kernel, rfl, by decide +kernel, by decide +kernel⟩
theorem bp_sum_of : BindP "sum_of" s_sum_of ["ground", "one", "other"] := fun _ _ _ _ _ _ us hl => match us, hl with | [_, _, _], _ => rfl
theorem ok_sum_of (G : Gf K mg) (o_ratio : OkD P w K mg base 1 "ratio" ["top", "bottom"] (spD K mg T false 2 D_ratio)) : OkD P w K mg base 2 "sum_of" ["ground", "one", "other"] (spD K mg T false 3 D_sum_of) :=
  okD_den (k := 1) G.d_sum_of sc_sum_of bp_sum_of rfl fun cdv A outer s H E c F0 hc hr => (ds_cons (ds_if (dt_cmp (fun _ _ => op_neD' rfl (u64 hr)) (de_var rfl (vis_of rfl)) de_int (nomark _)) (ds_one (ds_ret (de_bin (fun _ _ => op_modD) (de_bin (fun _ _ => op_addD rfl) (de_var rfl (vis_of rfl)) (de_var rfl (vis_of rfl))) (de_var rfl (vis_of rfl))))) ds_nil) (ds_one (ds_ret (de_callO o_ratio hr (by decide) rfl rfl rfl rfl dx_takes (argn_cons (argn_cons argn_nil)) (dak_none (da_cons (de_bin (fun _ _ => op_addD rfl) (de_bin (fun _ _ => op_mulD rfl) (de_pidx rfl rfl (vis_of rfl) de_int (fun _ _ => rfl)) (de_pidx rfl rfl (vis_of rfl) de_int (fun _ _ => rfl))) (de_bin (fun _ _ => op_mulD rfl) (de_pidx rfl rfl (vis_of rfl) de_int (fun _ _ => rfl)) (de_pidx rfl rfl (vis_of rfl) de_int (fun _ _ => rfl)))) (da_cons (de_bin (fun _ _ => op_mulD rfl) (de_pidx rfl rfl (vis_of rfl) de_int (fun _ _ => rfl)) (de_pidx rfl rfl (vis_of rfl) de_int (fun _ _ => rfl))) da_nil)))))))
/-! ### product_of -/
abbrev N_product_of : List Str := ["ground", "one", "other"]
theorem sc_product_of : FnScope N_product_of ["ground", "one", "other"] (defScope s_product_of) := ⟨rfl, rfl, rfl, by decide +kernel, rfl, by decide +kernel, by decide +kernel⟩
theorem bp_product_of : BindP "product_of" s_product_of ["ground", "one", "other"] := fun _ _ _ _ _ _ us hl => match us, hl with | [_, _, _], _ => rfl
theorem ok_product_of (G : Gf K mg) (o_ratio : OkD P w K mg base 1 "ratio" ["top", "bottom"] (spD K mg T false 2 D_ratio)) : OkD P w K mg base 2 "product_of" ["ground", "one", "other"] (spD K mg T false 3 D_product_of) :=
  okD_den (k := 1) G.d_product_of sc_product_of bp_product_of rfl fun cdv A outer s H E c F0 hc hr => (ds_one (ds_ret (de_if (dt_cmp (fun _ _ => op_eqD' rfl (u64 hr)) (de_var rfl (vis_of rfl)) de_int (nomark _)) (de_callO o_ratio hr (by decide) rfl rfl rfl rfl dx_takes (argn_cons (argn_cons argn_nil)) (dak_none (da_cons (de_bin (fun _ _ => op_mulD rfl) (de_pidx rfl rfl (vis_of rfl) de_int (fun _ _ => rfl)) (de_pidx rfl rfl (vis_of rfl) de_int (fun _ _ => rfl))) (da_cons (de_bin (fun _ _ => op_mulD rfl) (de_pidx rfl rfl (vis_of rfl) de_int (fun _ _ => rfl)) (de_pidx rfl rfl (vis_of rfl) de_int (fun _ _ => rfl))) da_nil)))) (de_bin (fun _ _ => op_modD) (de_bin (fun _ _ => op_mulD rfl) (de_var rfl (vis_of rfl)) (de_var rfl (vis_of rfl))) (de_var rfl (vis_of rfl))))))
/-! ### times_row -/
abbrev N_times_row : List Str := ["ground", "row", "second", "found", "at", "one", "back"]
theorem sc_times_row : FnScope N_times_row ["ground", "row", "second"] (defScope s_times_row) := ⟨rfl, rfl, rfl, by decide +kernel, rfl, by decide +kernel, by decide +kernel⟩
theorem bp_times_row : BindP "times_row" s_times_row ["ground", "row", "second"] := fun _ _ _ _ _ _ us hl => match us, hl with | [_, _, _], _ => rfl
def m_times_row : M Fl := (sq (sOwn 3 (fLst aNil)) (sq (sFor (bnd (aCons (pkF 1 (ret ()) fun d _ => lenD [d]) aNil) rng1) (gN 4) (sq (sSet 5 (eCall none D_number_of (aCons (eVar 0) (aCons (eC (.int 0)) aNil)))) (sq (sFor (bnd (aCons (e2 addD (eVar 4) (eC (.int 1))) aNil) rng1) (gN 6) (sSet 5 (eCall none D_sum_of (aCons (eVar 0) (aCons (eVar 5) (aCons (eCall none D_product_of (aCons (eVar 0) (aCons (pkF 1 (eVar 6) idxD) (aCons (pkF 2 (e2 subD (eVar 4) (eVar 6)) idxD) aNil)))) aNil)))))) (sApp 3 (eVar 5))))) (sRet (eA tupOfD (aCons (eVar 3) aNil)))))
def D_times_row : Dn := denOf N_times_row.length false m_times_row
theorem ok_times_row (G : Gf K mg) (o_number_of : OkD P w K mg base 1 "number_of" ["ground", "whole"] (spD K mg T false 2 D_number_of)) (o_product_of : OkD P w K mg base 2 "product_of" ["ground", "one", "other"] (spD K mg T false 3 D_product_of)) (o_sum_of : OkD P w K mg base 2 "sum_of" ["ground", "one", "other"] (spD K mg T false 3 D_sum_of)) : OkD P w K mg base 3 "times_row" ["ground", "row", "second"] (spD K mg T false 3 D_times_row) :=
  okD_den (k := 2) G.d_times_row sc_times_row bp_times_row rfl fun cdv A outer s H E c F0 hc hr => (ds_cons (ds_own sc_times_row.nd rfl (loc_of rfl) (df_lst da_nil)) (ds_cons (ds_for dx_passes rfl (di_range1 rfl G.b_range (da_cons (de_plen rfl rfl G.b_len boot_len rfl (vis_of rfl)) da_nil)) (dg_name sc_times_row.nd rfl (loc_of rfl)) (ds_cons (ds_set sc_times_row.nd rfl (loc_of rfl) (de_callO o_number_of hr (by decide) rfl rfl rfl rfl dx_takes (argn_cons (argn_cons argn_nil)) (dak_none (da_cons (de_var rfl (vis_of rfl)) (da_cons de_int da_nil))))) (ds_cons (ds_for dx_passes rfl (di_range1 rfl G.b_range (da_cons (de_bin (fun _ _ => op_addD rfl) (de_var rfl (vis_of rfl)) de_int) da_nil)) (dg_name sc_times_row.nd rfl (loc_of rfl)) (ds_one (ds_set sc_times_row.nd rfl (loc_of rfl) (de_callO o_sum_of hr (by decide) rfl rfl rfl rfl dx_takes (argn_cons (argn_cons (argn_cons argn_nil))) (dak_none (da_cons (de_var rfl (vis_of rfl)) (da_cons (de_var rfl (vis_of rfl)) (da_cons (de_callO o_product_of hr (by decide) rfl rfl rfl rfl dx_takes (argn_cons (argn_cons (argn_cons argn_nil))) (dak_none (da_cons (de_var rfl (vis_of rfl)) (da_cons (de_pidx rfl rfl (vis_of rfl) (de_var rfl (vis_of rfl)) (fun _ _ => rfl)) (da_cons (de_pidx rfl rfl (vis_of rfl) (de_bin (fun _ _ => op_subD) (de_var rfl (vis_of rfl)) (de_var rfl (vis_of rfl))) (fun _ _ => rfl)) da_nil))))) da_nil)))))))) (ds_one (ds_app rfl (vis_of rfl) (de_var rfl (vis_of rfl))))))) (ds_one (ds_ret (de_callTy (fun _ _ => cr_tupOfD rfl) rfl G.b_tuple boot_tuple (da_cons (de_var rfl (vis_of rfl)) da_nil))))))
/-! ### multiplied_rows -/
abbrev N_multiplied_rows : List Str := ["ground", "row", "second"]
theorem sc_multiplied_rows : FnScope N_multiplied_rows ["ground", "row", "second"] (defScope s_multiplied_rows) := ⟨rfl, rfl, rfl, by decide +kernel, rfl, by decide +kernel, by decide +kernel⟩
theorem bp_multiplied_rows : BindP "multiplied_rows" s_multiplied_rows ["ground", "row", "second"] := fun _ _ _ _ _ _ us hl => match us, hl with | [_, _, _], _ => rfl
def m_multiplied_rows : M Fl := (sq (sExp (eCall none D_need_power_row (aCons (eVar 0) (aCons (eVar 1) aNil)))) (sq (sExp (eCall none D_need_like (aCons (eVar 0) (aCons (eVar 1) (aCons (eVar 2) aNil))))) (sRet (eCall none D_times_row (aCons (eVar 0) (aCons (eVar 1) (aCons (eVar 2) aNil)))))))
def D_multiplied_rows : Dn := denOf N_multiplied_rows.length false m_multiplied_rows
theorem ok_multiplied_rows (G : Gf K mg) (o_need_like : OkD P w K mg base 4 "need_like" ["ground", "row", "second"] (spD K mg T false 3 D_need_like)) (o_need_power_row : OkD P w K mg base 4 "need_power_row" ["ground", "row"] (spD K mg T false 2 D_need_power_row)) (o_times_row : OkD P w K mg base 3 "times_row" ["ground", "row", "second"] (spD K mg T false 3 D_times_row)) : OkD P w K mg base 5 "multiplied_rows" ["ground", "row", "second"] (spD K mg T false 3 D_multiplied_rows) :=
  okD_den (k := 4) G.d_multiplied_rows sc_multiplied_rows bp_multiplied_rows rfl fun cdv A outer s H E c F0 hc hr => (ds_cons (ds_exp (de_callO o_need_power_row hr (by decide) rfl rfl rfl rfl dx_takes (argn_cons (argn_cons argn_nil)) (dak_none (da_cons (de_var rfl (vis_of rfl)) (da_cons (de_var rfl (vis_of rfl)) da_nil))))) (ds_cons (ds_exp (de_callO o_need_like hr (by decide) rfl rfl rfl rfl dx_takes (argn_cons (argn_cons (argn_cons argn_nil))) (dak_none (da_cons (de_var rfl (vis_of rfl)) (da_cons (de_var rfl (vis_of rfl)) (da_cons (de_var rfl (vis_of rfl)) da_nil)))))) (ds_one (ds_ret (de_callO o_times_row hr (by decide) rfl rfl rfl rfl dx_takes (argn_cons (argn_cons (argn_cons argn_nil))) (dak_none (da_cons (de_var rfl (vis_of rfl)) (da_cons (de_var rfl (vis_of rfl)) (da_cons (de_var rfl (vis_of rfl)) da_nil)))))))))
/-! ### is_nothing -/
abbrev N_is_nothing : List Str := ["ground", "one"]
theorem sc_is_nothing : FnScope N_is_nothing ["ground", "one"] (defScope s_is_nothing) := ⟨rfl, rfl, rfl, by decide +kernel, rfl, by decide +kernel, by decide +kernel⟩
theorem bp_is_nothing : BindP "is_nothing" s_is_nothing ["ground", "one"] := fun _ _ _ _ _ _ us hl => match us, hl with | [_, _], _ => rfl
theorem ok_is_nothing (G : Gf K mg)  : OkD P w K mg base 1 "is_nothing" ["ground", "one"] (spD K mg T false 2 D_is_nothing) :=
  okD_den (k := 0) G.d_is_nothing sc_is_nothing bp_is_nothing rfl fun cdv A outer s H E c F0 hc hr => (ds_one (ds_ret (de_if (dt_cmp (fun _ _ => op_eqD' rfl (u64 hr)) (de_var rfl (vis_of rfl)) de_int (nomark _)) (de_cmp (fun _ _ => op_eqD' rfl (u64 hr)) (de_pidx rfl rfl (vis_of rfl) de_int (fun _ _ => rfl)) de_int (nomark _)) (de_cmp (fun _ _ => op_eqD' rfl (u64 hr)) (de_var rfl (vis_of rfl)) de_int (nomark _)))))
/-! ### put_row -/
abbrev N_put_row : List Str := ["ground", "row", "second", "found", "one"]
theorem sc_put_row : FnScope N_put_row ["ground", "row", "second"] (defScope s_put_row) := ⟨rfl, rfl, rfl, by decide +kernel, rfl, by decide +kernel, by decide +kernel⟩
theorem bp_put_row : BindP "put_row" s_put_row ["ground", "row", "second"] := fun _ _ _ _ _ _ us hl => match us, hl with | [_, _, _], _ => rfl
def m_put_row : M Fl := (sq (sSet 3 (e2 mulD (eA tupD (aCons (eCall none D_number_of (aCons (eVar 0) (aCons (eC (.int 0)) aNil))) aNil)) (pkF 1 (ret ()) fun d _ => lenD [d]))) (sq (sFor (bnd (eVar 1) revIt) (gN 4) (sq (sSet 3 (eCall none D_times_row (aCons (eVar 0) (aCons (eVar 3) (aCons (eVar 2) aNil))))) (sSet 3 (e2 addD (eA tupD (aCons (eCall none D_sum_of (aCons (eVar 0) (aCons (pkF 3 (eC (.int 0)) idxD) (aCons (eVar 4) aNil)))) aNil)) (pkF 3 (two (bnd (eC (.int 1)) asI) (ret none)) fun d y => sliD y.1 y.2 d))))) (sRet (eVar 3))))
def D_put_row : Dn := denOf N_put_row.length false m_put_row
theorem ok_put_row (G : Gf K mg) (o_number_of : OkD P w K mg base 1 "number_of" ["ground", "whole"] (spD K mg T false 2 D_number_of)) (o_sum_of : OkD P w K mg base 2 "sum_of" ["ground", "one", "other"] (spD K mg T false 3 D_sum_of)) (o_times_row : OkD P w K mg base 3 "times_row" ["ground", "row", "second"] (spD K mg T false 3 D_times_row)) : OkD P w K mg base 4 "put_row" ["ground", "row", "second"] (spD K mg T false 3 D_put_row) :=
  okD_den (k := 3) G.d_put_row sc_put_row bp_put_row rfl fun cdv A outer s H E c F0 hc hr => (ds_cons (ds_set sc_put_row.nd rfl (loc_of rfl) (de_bin (fun _ _ => op_mulD rfl) (de_tup (da_cons (de_callO o_number_of hr (by decide) rfl rfl rfl rfl dx_takes (argn_cons (argn_cons argn_nil)) (dak_none (da_cons (de_var rfl (vis_of rfl)) (da_cons de_int da_nil)))) da_nil)) (de_plen rfl rfl G.b_len boot_len rfl (vis_of rfl)))) (ds_cons (ds_for dx_passes rfl (di_rev rfl rfl G.b_reversed (de_var rfl (vis_of rfl))) (dg_name sc_put_row.nd rfl (loc_of rfl)) (ds_cons (ds_set sc_put_row.nd rfl (loc_of rfl) (de_callO o_times_row hr (by decide) rfl rfl rfl rfl dx_takes (argn_cons (argn_cons (argn_cons argn_nil))) (dak_none (da_cons (de_var rfl (vis_of rfl)) (da_cons (de_var rfl (vis_of rfl)) (da_cons (de_var rfl (vis_of rfl)) da_nil)))))) (ds_one (ds_set sc_put_row.nd rfl (loc_of rfl) (de_bin (fun _ _ => op_addD rfl) (de_tup (da_cons (de_callO o_sum_of hr (by decide) rfl rfl rfl rfl dx_takes (argn_cons (argn_cons (argn_cons argn_nil))) (dak_none (da_cons (de_var rfl (vis_of rfl)) (da_cons (de_pidx rfl rfl (vis_of rfl) de_int (fun _ _ => rfl)) (da_cons (de_var rfl (vis_of rfl)) da_nil))))) da_nil)) (de_psli rfl rfl (vis_of rfl) (do_some de_int) do_none)))))) (ds_one (ds_ret (de_var rfl (vis_of rfl))))))
/-! ### put_into_row -/
abbrev N_put_into_row : List Str := ["ground", "row", "second"]
theorem sc_put_into_row : FnScope N_put_into_row ["ground", "row", "second"] (defScope s_put_into_row) := ⟨rfl, rfl, rfl, by decide +kernel, rfl, by decide +kernel, by decide +kernel⟩
theorem bp_put_into_row : BindP "put_into_row" s_put_into_row ["ground", "row", "second"] := fun _ _ _ _ _ _ us hl => match us, hl with | [_, _, _], _ => rfl
def m_put_into_row : M Fl := (sq (sExp (eCall none D_need_power_row (aCons (eVar 0) (aCons (eVar 1) aNil)))) (sq (sExp (eCall none D_need_like (aCons (eVar 0) (aCons (eVar 1) (aCons (eVar 2) aNil))))) (sq (sIf (tNot (tV (eCall none D_is_nothing (aCons (eVar 0) (aCons (pkF 2 (eC (.int 0)) idxD) aNil))))) (exc "InvalidRow") (ret .nx)) (sRet (eCall none D_put_row (aCons (eVar 0) (aCons (eVar 1) (aCons (eVar 2) aNil))))))))
def D_put_into_row : Dn := denOf N_put_into_row.length false m_put_into_row
theorem ok_put_into_row (G : Gf K mg) (o_is_nothing : OkD P w K mg base 1 "is_nothing" ["ground", "one"] (spD K mg T false 2 D_is_nothing)) (o_need_like : OkD P w K mg base 4 "need_like" ["ground", "row", "second"] (spD K mg T false 3 D_need_like)) (o_need_power_row : OkD P w K mg base 4 "need_power_row" ["ground", "row"] (spD K mg T false 2 D_need_power_row)) (o_put_row : OkD P w K mg base 4 "put_row" ["ground", "row", "second"] (spD K mg T false 3 D_put_row)) : OkD P w K mg base 5 "put_into_row" ["ground", "row", "second"] (spD K mg T false 3 D_put_into_row) :=
  okD_den (k := 4) G.d_put_into_row sc_put_into_row bp_put_into_row rfl fun cdv A outer s H E c F0 hc hr => (ds_cons (ds_exp (de_callO o_need_power_row hr (by decide) rfl rfl rfl rfl dx_takes (argn_cons (argn_cons argn_nil)) (dak_none (da_cons (de_var rfl (vis_of rfl)) (da_cons (de_var rfl (vis_of rfl)) da_nil))))) (ds_cons (ds_exp (de_callO o_need_like hr (by decide) rfl rfl rfl rfl dx_takes (argn_cons (argn_cons (argn_cons argn_nil))) (dak_none (da_cons (de_var rfl (vis_of rfl)) (da_cons (de_var rfl (vis_of rfl)) (da_cons (de_var rfl (vis_of rfl)) da_nil)))))) (ds_cons (ds_if (dt_not (dt_val (de_callO o_is_nothing hr (by decide) rfl rfl rfl rfl dx_takes (argn_cons (argn_cons argn_nil)) (dak_none (da_cons (de_var rfl (vis_of rfl)) (da_cons (de_pidx rfl rfl (vis_of rfl) de_int (fun _ _ => rfl)) da_nil)))))) (ds_one (ds_raiseO G.x_InvalidRow rfl dx_takes rfl rfl)) ds_nil) (ds_one (ds_ret (de_callO o_put_row hr (by decide) rfl rfl rfl rfl dx_takes (argn_cons (argn_cons (argn_cons argn_nil))) (dak_none (da_cons (de_var rfl (vis_of rfl)) (da_cons (de_var rfl (vis_of rfl)) (da_cons (de_var rfl (vis_of rfl)) da_nil))))))))))
/-! ### _law_sort -/
abbrev N__law_sort : List Str := ["value"]
theorem sc__law_sort : FnScope N__law_sort ["value"] (defScope s__law_sort) := ⟨rfl, rfl, rfl, by decide +kernel, rfl, by decide +kernel, by decide +kernel⟩
theorem bp__law_sort : BindP "_law_sort" s__law_sort ["value"] := fun _ _ _ _ _ _ us hl => match us, hl with | [_], _ => rfl
theorem ok__law_sort (G : Gf K mg)  : OkD P w K mg base 1 "_law_sort" ["value"] (spD K mg T false 1 D__law_sort) :=
  okD_den (k := 0) G.d__law_sort sc__law_sort bp__law_sort rfl fun cdv A outer s H E c F0 hc hr => (ds_cons (ds_if (dw_pt (dw_or (dt_isN (de_var rfl (vis_of rfl))) (dw_or1 (dt_val (de_isi kit_bool rfl G.b_isinstance boot_isinstance rfl G.b_bool boot_bool rfl (de_var rfl (vis_of rfl))))))) (ds_one (ds_ret (de_if (dt_isN (de_var rfl (vis_of rfl))) de_int de_int))) ds_nil) (ds_cons (ds_if (dw_pt (dw_or (dt_val (de_isi kit_int rfl G.b_isinstance boot_isinstance rfl G.b_int boot_int rfl (de_var rfl (vis_of rfl)))) (dw_or1 (dt_val (de_isi kit_str rfl G.b_isinstance boot_isinstance rfl G.b_str boot_str rfl (de_var rfl (vis_of rfl))))))) (ds_one (ds_ret (de_if (dt_val (de_isi kit_int rfl G.b_isinstance boot_isinstance rfl G.b_int boot_int rfl (de_var rfl (vis_of rfl)))) de_int de_int))) ds_nil) (ds_one (ds_ret (de_if (dt_val (de_isi kit_tup rfl G.b_isinstance boot_isinstance rfl G.b_tuple boot_tuple rfl (de_var rfl (vis_of rfl)))) de_int (de_if (dt_val (de_isi kit_lst rfl G.b_isinstance boot_isinstance rfl G.b_list boot_list rfl (de_var rfl (vis_of rfl)))) de_int de_int))))))
/-! ### _law_like -/
abbrev N__law_like : List Str := ["one", "other", "sort", "first", "second"]
theorem sc__law_like : FnScope N__law_like ["one", "other"] (defScope s__law_like) := ⟨rfl, rfl, rfl, by decide +kernel, rfl, by decide +kernel, by decide +kernel⟩
theorem bp__law_like : BindP "_law_like" s__law_like ["one", "other"] := fun _ _ _ _ _ _ us hl => match us, hl with | [_, _], _ => rfl
theorem ok__law_like (G : Gf K mg) (o__law_sort : OkD P w K mg base 1 "_law_sort" ["value"] (spD K mg T false 1 D__law_sort)) : ∀ n, OkD P w K mg base (n + 1) "_law_like" ["one", "other"] (spD K mg T false 2 (L__law_like n))
  | 0 => okD_bad G.d__law_like bp__law_like rfl
  | i + 1 => by
    have o__law_like := ok__law_like G o__law_sort i
    exact okD_den (k := i + 1) G.d__law_like sc__law_like bp__law_like rfl fun cdv A outer s H E c F0 hc hr => (ds_cons (ds_set sc__law_like.nd rfl (loc_of rfl) (de_callO o__law_sort hr (by omega) rfl rfl rfl rfl dx_takes (argn_cons argn_nil) (dak_none (da_cons (de_var rfl (vis_of rfl)) da_nil)))) (ds_cons (ds_if (dw_pt (dw_or (dt_cmp (fun _ _ => op_neD' rfl (u64 hr)) (de_callO o__law_sort hr (by omega) rfl rfl rfl rfl dx_takes (argn_cons argn_nil) (dak_none (da_cons (de_var rfl (vis_of rfl)) da_nil))) (de_var rfl (vis_of rfl)) (nomark _)) (dw_or1 (dt_cmp (fun _ _ => op_eqD' rfl (u64 hr)) (de_var rfl (vis_of rfl)) de_int (nomark _))))) (ds_one (ds_ret de_bl)) ds_nil) (ds_cons (ds_if (dt_cmp (fun _ _ => op_inD' rfl (u65 hr)) (de_var rfl (vis_of rfl)) (de_tup (da_cons de_int (da_cons de_int da_nil))) rfl) (ds_one (ds_ret (de_and (de_cmp (fun _ _ => op_eqD' rfl (u64 hr)) (de_plen rfl rfl G.b_len boot_len rfl (vis_of rfl)) (de_plen rfl rfl G.b_len boot_len rfl (vis_of rfl)) (nomark _)) (de_one (de_cmp (fun _ _ => op_eqD' rfl (u64 hr)) (de_frz (df_lc rfl sc__law_like.nd (di_zip rfl rfl G.b_zip (da_cons (de_var rfl (vis_of rfl)) (da_cons (de_var rfl (vis_of rfl)) da_nil))) (own := [("first", 3), ("second", 4)]) (blkOk_by rfl) (by decide) (fun _ _ _ _ _ => (dg_tup rfl rfl (dgs_cons (dg_name sc__law_like.nd rfl (loc_of rfl)) (dgs_cons (dg_name sc__law_like.nd rfl (loc_of rfl)) dgs_nil)))) (fun _ _ _ _ _ => (dts_one (dt_not (dt_val (de_callO o__law_like hr (Nat.le_refl _) rfl rfl rfl rfl tk_nw (argn_cons (argn_cons argn_nil)) (dak_none (da_cons (de_var rfl (vis_of rfl)) (da_cons (de_var rfl (vis_of rfl)) da_nil)))))))) (fun _ _ _ _ _ => de_int))) (de_lst da_nil) (nomark _)))))) ds_nil) (ds_one (ds_ret (de_cmp (fun _ _ => op_eqD' rfl (u64 hr)) (de_var rfl (vis_of rfl)) (de_var rfl (vis_of rfl)) (nomark _)))))))
/-! ### _law_add -/
abbrev N__law_add : List Str := ["ground", "one", "other"]
theorem sc__law_add : FnScope N__law_add ["ground", "one", "other"] (defScope s__law_add) := ⟨rfl, rfl, rfl, by decide +kernel, rfl, by decide +kernel, by decide +kernel⟩
theorem bp__law_add : BindP "_law_add" s__law_add ["ground", "one", "other"] := fun _ _ _ _ _ _ us hl => match us, hl with | [_, _, _], _ => rfl
theorem ok__law_add (G : Gf K mg) (o__law_plain : OkD P w K mg base 2 "_law_plain" ["top", "bottom"] (spD K mg T false 2 D__law_plain)) : OkD P w K mg base 3 "_law_add" ["ground", "one", "other"] (spD K mg T false 3 D__law_add) :=
  okD_den (k := 2) G.d__law_add sc__law_add bp__law_add rfl fun cdv A outer s H E c F0 hc hr => (ds_one (ds_ret (de_if (dt_cmp (fun _ _ => op_neD' rfl (u64 hr)) (de_var rfl (vis_of rfl)) de_int (nomark _)) (de_bin (fun _ _ => op_modD) (de_callTy (fun _ _ => cr_intD) rfl G.b_int boot_int (da_cons (de_bin (fun _ _ => op_addD rfl) (de_var rfl (vis_of rfl)) (de_var rfl (vis_of rfl))) da_nil)) (de_var rfl (vis_of rfl))) (de_callO o__law_plain hr (by decide) rfl rfl rfl rfl dx_takes (argn_cons (argn_cons argn_nil)) (dak_none (da_cons (de_bin (fun _ _ => op_addD rfl) (de_bin (fun _ _ => op_mulD rfl) (de_pidx rfl rfl (vis_of rfl) de_int (fun _ _ => rfl)) (de_pidx rfl rfl (vis_of rfl) de_int (fun _ _ => rfl))) (de_bin (fun _ _ => op_mulD rfl) (de_pidx rfl rfl (vis_of rfl) de_int (fun _ _ => rfl)) (de_pidx rfl rfl (vis_of rfl) de_int (fun _ _ => rfl)))) (da_cons (de_bin (fun _ _ => op_mulD rfl) (de_pidx rfl rfl (vis_of rfl) de_int (fun _ _ => rfl)) (de_pidx rfl rfl (vis_of rfl) de_int (fun _ _ => rfl))) da_nil)))))))
/-! ### _law_mul -/
abbrev N__law_mul : List Str := ["ground", "one", "other"]
theorem sc__law_mul : FnScope N__law_mul ["ground", "one", "other"] (defScope s__law_mul) := ⟨rfl, rfl, rfl, by decide +kernel, rfl, by decide +kernel, by decide +kernel⟩
theorem bp__law_mul : BindP "_law_mul" s__law_mul ["ground", "one", "other"] := fun _ _ _ _ _ _ us hl => match us, hl with | [_, _, _], _ => rfl
theorem ok__law_mul (G : Gf K mg) (o__law_plain : OkD P w K mg base 2 "_law_plain" ["top", "bottom"] (spD K mg T false 2 D__law_plain)) : OkD P w K mg base 3 "_law_mul" ["ground", "one", "other"] (spD K mg T false 3 D__law_mul) :=
  okD_den (k := 2) G.d__law_mul sc__law_mul bp__law_mul rfl fun cdv A outer s H E c F0 hc hr => (ds_one (ds_ret (de_if (dt_cmp (fun _ _ => op_neD' rfl (u64 hr)) (de_var rfl (vis_of rfl)) de_int (nomark _)) (de_bin (fun _ _ => op_modD) (de_callTy (fun _ _ => cr_intD) rfl G.b_int boot_int (da_cons (de_bin (fun _ _ => op_mulD rfl) (de_var rfl (vis_of rfl)) (de_var rfl (vis_of rfl))) da_nil)) (de_var rfl (vis_of rfl))) (de_callO o__law_plain hr (by decide) rfl rfl rfl rfl dx_takes (argn_cons (argn_cons argn_nil)) (dak_none (da_cons (de_bin (fun _ _ => op_mulD rfl) (de_pidx rfl rfl (vis_of rfl) de_int (fun _ _ => rfl)) (de_pidx rfl rfl (vis_of rfl) de_int (fun _ _ => rfl))) (da_cons (de_bin (fun _ _ => op_mulD rfl) (de_pidx rfl rfl (vis_of rfl) de_int (fun _ _ => rfl)) (de_pidx rfl rfl (vis_of rfl) de_int (fun _ _ => rfl))) da_nil)))))))
/-! ### _law_times -/
abbrev N__law_times : List Str := ["ground", "row", "second", "found", "at", "one", "place"]
theorem sc__law_times : FnScope N__law_times ["ground", "row", "second"] (defScope s__law_times) := ⟨rfl, rfl, rfl, by decide +kernel, rfl, by decide +kernel, by decide +kernel⟩
theorem bp__law_times : BindP "_law_times" s__law_times ["ground", "row", "second"] := fun _ _ _ _ _ _ us hl => match us, hl with | [_, _, _], _ => rfl
def m__law_times : M Fl := (sq (sOwn 3 (f2 repL (eA lstD (aCons (eCall none D__law_whole_of (aCons (eVar 0) (aCons (eC (.int 0)) aNil))) aNil)) (pkF 1 (ret ()) fun d _ => lenD [d]))) (sq (sFor (bnd (aCons (eVar 1) aNil) enumD) (gTn 2 (gsCons (gN 4) (gsCons (gN 5) gsNil))) (sFor (bnd (aCons (e2 subD (pkF 1 (ret ()) fun d _ => lenD [d]) (eVar 4)) aNil) rng1) (gN 6) (sStI 3 (eCall none D__law_add (aCons (eVar 0) (aCons (pkF 3 (e2 addD (eVar 4) (eVar 6)) idxD) (aCons (eCall none D__law_mul (aCons (eVar 0) (aCons (eVar 5) (aCons (pkF 2 (eVar 6) idxD) aNil)))) aNil)))) (e2 addD (eVar 4) (eVar 6))))) (sRet (eA tupOfD (aCons (eVar 3) aNil)))))
def D__law_times : Dn := denOf N__law_times.length false m__law_times
theorem ok__law_times (G : Gf K mg) (o__law_add : OkD P w K mg base 3 "_law_add" ["ground", "one", "other"] (spD K mg T false 3 D__law_add)) (o__law_mul : OkD P w K mg base 3 "_law_mul" ["ground", "one", "other"] (spD K mg T false 3 D__law_mul)) (o__law_whole_of : OkD P w K mg base 1 "_law_whole_of" ["ground", "whole"] (spD K mg T false 2 D__law_whole_of)) : OkD P w K mg base 4 "_law_times" ["ground", "row", "second"] (spD K mg T false 3 D__law_times) :=
  okD_den (k := 3) G.d__law_times sc__law_times bp__law_times rfl fun cdv A outer s H E c F0 hc hr => (ds_cons (ds_own sc__law_times.nd rfl (loc_of rfl) (df_rep (de_lst (da_cons (de_callO o__law_whole_of hr (by decide) rfl rfl rfl rfl dx_takes (argn_cons (argn_cons argn_nil)) (dak_none (da_cons (de_var rfl (vis_of rfl)) (da_cons de_int da_nil)))) da_nil)) (de_plen rfl rfl G.b_len boot_len rfl (vis_of rfl)))) (ds_cons (ds_for dx_passes rfl (di_enum rfl rfl G.b_enumerate (da_cons (de_var rfl (vis_of rfl)) da_nil)) (dg_tup rfl rfl (dgs_cons (dg_name sc__law_times.nd rfl (loc_of rfl)) (dgs_cons (dg_name sc__law_times.nd rfl (loc_of rfl)) dgs_nil))) (ds_one (ds_for dx_passes rfl (di_range1 rfl G.b_range (da_cons (de_bin (fun _ _ => op_subD) (de_plen rfl rfl G.b_len boot_len rfl (vis_of rfl)) (de_var rfl (vis_of rfl))) da_nil)) (dg_name sc__law_times.nd rfl (loc_of rfl)) (ds_one (ds_stI rfl (vis_of rfl) (de_callO o__law_add hr (by decide) rfl rfl rfl rfl dx_takes (argn_cons (argn_cons (argn_cons argn_nil))) (dak_none (da_cons (de_var rfl (vis_of rfl)) (da_cons (de_pidx rfl rfl (vis_of rfl) (de_bin (fun _ _ => op_addD rfl) (de_var rfl (vis_of rfl)) (de_var rfl (vis_of rfl))) (fun _ _ => rfl)) (da_cons (de_callO o__law_mul hr (by decide) rfl rfl rfl rfl dx_takes (argn_cons (argn_cons (argn_cons argn_nil))) (dak_none (da_cons (de_var rfl (vis_of rfl)) (da_cons (de_var rfl (vis_of rfl)) (da_cons (de_pidx rfl rfl (vis_of rfl) (de_var rfl (vis_of rfl)) (fun _ _ => rfl)) da_nil))))) da_nil))))) (de_bin (fun _ _ => op_addD rfl) (de_var rfl (vis_of rfl)) (de_var rfl (vis_of rfl)))))))) (ds_one (ds_ret (de_callTy (fun _ _ => cr_tupOfD rfl) rfl G.b_tuple boot_tuple (da_cons (de_var rfl (vis_of rfl)) da_nil))))))
/-! ### _law_put -/
abbrev N__law_put : List Str := ["ground", "row", "second", "power", "found", "one", "old", "new"]
theorem sc__law_put : FnScope N__law_put ["ground", "row", "second"] (defScope s__law_put) := ⟨rfl, rfl, rfl, by decide +kernel, rfl, by decide +kernel, by decide +kernel⟩
theorem bp__law_put : BindP "_law_put" s__law_put ["ground", "row", "second"] := fun _ _ _ _ _ _ us hl => match us, hl with | [_, _, _], _ => rfl
def m__law_put : M Fl := (sq (sSet 3 (e2 addD (eA tupD (aCons (eCall none D__law_whole_of (aCons (eVar 0) (aCons (eC (.int 1)) aNil))) aNil)) (e2 mulD (eA tupD (aCons (eCall none D__law_whole_of (aCons (eVar 0) (aCons (eC (.int 0)) aNil))) aNil)) (e2 subD (pkF 1 (ret ()) fun d _ => lenD [d]) (eC (.int 1)))))) (sq (sSet 4 (e2 mulD (eA tupD (aCons (eCall none D__law_whole_of (aCons (eVar 0) (aCons (eC (.int 0)) aNil))) aNil)) (pkF 1 (ret ()) fun d _ => lenD [d]))) (sq (sFor (bnd (eVar 1) itD) (gN 5) (sq (sSet 4 (eA tupOfD (aCons (frz (eLc (bnd (aCons (eVar 4) (aCons (eVar 3) aNil)) zipD) (gTn 2 (gsCons (gN 6) (gsCons (gN 7) gsNil))) (ret true) (eCall none D__law_add (aCons (eVar 0) (aCons (eVar 6) (aCons (eCall none D__law_mul (aCons (eVar 0) (aCons (eVar 5) (aCons (eVar 7) aNil)))) aNil)))) [6, 7])) aNil))) (sSet 3 (eCall none D__law_times (aCons (eVar 0) (aCons (eVar 3) (aCons (eVar 2) aNil))))))) (sRet (eVar 4)))))
def D__law_put : Dn := denOf N__law_put.length false m__law_put
theorem ok__law_put (G : Gf K mg) (o__law_add : OkD P w K mg base 3 "_law_add" ["ground", "one", "other"] (spD K mg T false 3 D__law_add)) (o__law_mul : OkD P w K mg base 3 "_law_mul" ["ground", "one", "other"] (spD K mg T false 3 D__law_mul)) (o__law_times : OkD P w K mg base 4 "_law_times" ["ground", "row", "second"] (spD K mg T false 3 D__law_times)) (o__law_whole_of : OkD P w K mg base 1 "_law_whole_of" ["ground", "whole"] (spD K mg T false 2 D__law_whole_of)) : OkD P w K mg base 5 "_law_put" ["ground", "row", "second"] (spD K mg T false 3 D__law_put) :=
  okD_den (k := 4) G.d__law_put sc__law_put bp__law_put rfl fun cdv A outer s H E c F0 hc hr => (ds_cons (ds_set sc__law_put.nd rfl (loc_of rfl) (de_bin (fun _ _ => op_addD rfl) (de_tup (da_cons (de_callO o__law_whole_of hr (by decide) rfl rfl rfl rfl dx_takes (argn_cons (argn_cons argn_nil)) (dak_none (da_cons (de_var rfl (vis_of rfl)) (da_cons de_int da_nil)))) da_nil)) (de_bin (fun _ _ => op_mulD rfl) (de_tup (da_cons (de_callO o__law_whole_of hr (by decide) rfl rfl rfl rfl dx_takes (argn_cons (argn_cons argn_nil)) (dak_none (da_cons (de_var rfl (vis_of rfl)) (da_cons de_int da_nil)))) da_nil)) (de_bin (fun _ _ => op_subD) (de_plen rfl rfl G.b_len boot_len rfl (vis_of rfl)) de_int)))) (ds_cons (ds_set sc__law_put.nd rfl (loc_of rfl) (de_bin (fun _ _ => op_mulD rfl) (de_tup (da_cons (de_callO o__law_whole_of hr (by decide) rfl rfl rfl rfl dx_takes (argn_cons (argn_cons argn_nil)) (dak_none (da_cons (de_var rfl (vis_of rfl)) (da_cons de_int da_nil)))) da_nil)) (de_plen rfl rfl G.b_len boot_len rfl (vis_of rfl)))) (ds_cons (ds_for dx_passes rfl (di_seq rfl (de_var rfl (vis_of rfl))) (dg_name sc__law_put.nd rfl (loc_of rfl)) (ds_cons (ds_set sc__law_put.nd rfl (loc_of rfl) (de_callTy (fun _ _ => cr_tupOfD rfl) rfl G.b_tuple boot_tuple (da_cons (de_frz (df_lc rfl sc__law_put.nd (di_zip rfl rfl G.b_zip (da_cons (de_var rfl (vis_of rfl)) (da_cons (de_var rfl (vis_of rfl)) da_nil))) (own := [("old", 6), ("new", 7)]) (blkOk_by rfl) (by decide) (fun _ _ _ _ _ => (dg_tup rfl rfl (dgs_cons (dg_name sc__law_put.nd rfl (loc_of rfl)) (dgs_cons (dg_name sc__law_put.nd rfl (loc_of rfl)) dgs_nil)))) (fun _ _ _ _ _ => dts_nil) (fun _ _ _ _ _ => (de_callO o__law_add hr (by decide) rfl rfl rfl rfl tk_nw (argn_cons (argn_cons (argn_cons argn_nil))) (dak_none (da_cons (de_var rfl (vis_of rfl)) (da_cons (de_var rfl (vis_of rfl)) (da_cons (de_callO o__law_mul hr (by decide) rfl rfl rfl rfl tk_nw (argn_cons (argn_cons (argn_cons argn_nil))) (dak_none (da_cons (de_var rfl (vis_of rfl)) (da_cons (de_var rfl (vis_of rfl)) (da_cons (de_var rfl (vis_of rfl)) da_nil))))) da_nil)))))))) da_nil))) (ds_one (ds_set sc__law_put.nd rfl (loc_of rfl) (de_callO o__law_times hr (by decide) rfl rfl rfl rfl dx_takes (argn_cons (argn_cons (argn_cons argn_nil))) (dak_none (da_cons (de_var rfl (vis_of rfl)) (da_cons (de_var rfl (vis_of rfl)) (da_cons (de_var rfl (vis_of rfl)) da_nil))))))))) (ds_one (ds_ret (de_var rfl (vis_of rfl)))))))
/-! ### back_of -/
abbrev N_back_of : List Str := ["ground", "one", "other"]
theorem sc_back_of : FnScope N_back_of ["ground", "one"] (defScope s_back_of) := ⟨rfl, rfl, rfl, by decide +kernel, rfl, by decide +kernel, by decide +kernel⟩
theorem bp_back_of : BindP "back_of" s_back_of ["ground", "one"] := fun _ _ _ _ _ _ us hl => match us, hl with | [_, _], _ => rfl
theorem ok_back_of (G : Gf K mg) (o_ratio : OkD P w K mg base 1 "ratio" ["top", "bottom"] (spD K mg T false 2 D_ratio)) : OkD P w K mg base 2 "back_of" ["ground", "one"] (spD K mg T false 2 D_back_of) :=
  okD_den (k := 1) G.d_back_of sc_back_of bp_back_of rfl fun cdv A outer s H E c F0 hc hr => (ds_cons (ds_if (dt_cmp (fun _ _ => op_eqD' rfl (u64 hr)) (de_var rfl (vis_of rfl)) de_int (nomark _)) (ds_one (ds_ret (de_callO o_ratio hr (by decide) rfl rfl rfl rfl dx_takes (argn_cons (argn_cons argn_nil)) (dak_none (da_cons (de_pidx rfl rfl (vis_of rfl) de_int (fun _ _ => rfl)) (da_cons (de_pidx rfl rfl (vis_of rfl) de_int (fun _ _ => rfl)) da_nil)))))) ds_nil) (ds_one (ds_ret (de_callB (fun _ _ => cr_minLD rfl) rfl G.b_min boot_min (da_cons (de_frz (df_lc rfl sc_back_of.nd (di_range2 rfl G.b_range (da_cons de_int (da_cons (de_var rfl (vis_of rfl)) da_nil))) (own := [("other", 2)]) (blkOk_by rfl) (by decide) (fun _ _ _ _ _ => (dg_name sc_back_of.nd rfl (loc_of rfl))) (fun _ _ _ _ _ => (dts_one (dt_cmp (fun _ _ => op_eqD' rfl (u64 hr)) (de_bin (fun _ _ => op_modD) (de_bin (fun _ _ => op_mulD rfl) (de_var rfl (vis_of rfl)) (de_var rfl (vis_of rfl))) (de_var rfl (vis_of rfl))) de_int (nomark _)))) (fun _ _ _ _ _ => (de_var rfl (vis_of rfl))))) da_nil)))))
/-! ### negative_of -/
abbrev N_negative_of : List Str := ["ground", "one"]
theorem sc_negative_of : FnScope N_negative_of ["ground", "one"] (defScope s_negative_of) := ⟨rfl, rfl, rfl, by decide +kernel, rfl, by decide +kernel, by decide +kernel⟩
theorem bp_negative_of : BindP "negative_of" s_negative_of ["ground", "one"] := fun _ _ _ _ _ _ us hl => match us, hl with | [_, _], _ => rfl
theorem ok_negative_of (G : Gf K mg)  : OkD P w K mg base 1 "negative_of" ["ground", "one"] (spD K mg T false 2 D_negative_of) :=
  okD_den (k := 0) G.d_negative_of sc_negative_of bp_negative_of rfl fun cdv A outer s H E c F0 hc hr => (ds_one (ds_ret (de_if (dt_cmp (fun _ _ => op_eqD' rfl (u64 hr)) (de_var rfl (vis_of rfl)) de_int (nomark _)) (de_tup (da_cons (de_un (fun _ _ => un_negD) (de_pidx rfl rfl (vis_of rfl) de_int (fun _ _ => rfl))) (da_cons (de_pidx rfl rfl (vis_of rfl) de_int (fun _ _ => rfl)) da_nil))) (de_bin (fun _ _ => op_modD) (de_un (fun _ _ => un_negD) (de_var rfl (vis_of rfl))) (de_var rfl (vis_of rfl))))))
/-! ### reciprocal -/
abbrev N_reciprocal : List Str := ["ground", "row", "back", "found", "at", "one", "place"]
theorem sc_reciprocal : FnScope N_reciprocal ["ground", "row"] (defScope s_reciprocal) := ⟨rfl, rfl, rfl, by decide +kernel, rfl, by decide +kernel, by decide +kernel⟩
theorem bp_reciprocal : BindP "reciprocal" s_reciprocal ["ground", "row"] := fun _ _ _ _ _ _ us hl => match us, hl with | [_, _], _ => rfl
def m_reciprocal : M Fl := (sq (sExp (eCall none D_need_power_row (aCons (eVar 0) (aCons (eVar 1) aNil)))) (sq (sIf (tV (eCall none D_is_nothing (aCons (eVar 0) (aCons (pkF 1 (eC (.int 0)) idxD) aNil)))) (exc "NotFound") (ret .nx)) (sq (sSet 2 (eCall none D_back_of (aCons (eVar 0) (aCons (pkF 1 (eC (.int 0)) idxD) aNil)))) (sq (sOwn 3 (fLst (aCons (eVar 2) aNil))) (sq (sFor (bnd (aCons (eC (.int 1)) (aCons (pkF 1 (ret ()) fun d _ => lenD [d]) aNil)) rng2) (gN 4) (sq (sSet 5 (eCall none D_number_of (aCons (eVar 0) (aCons (eC (.int 0)) aNil)))) (sq (sFor (bnd (aCons (eC (.int 1)) (aCons (e2 addD (eVar 4) (eC (.int 1))) aNil)) rng2) (gN 6) (sSet 5 (eCall none D_sum_of (aCons (eVar 0) (aCons (eVar 5) (aCons (eCall none D_product_of (aCons (eVar 0) (aCons (pkF 1 (eVar 6) idxD) (aCons (pkF 3 (e2 subD (eVar 4) (eVar 6)) idxD) aNil)))) aNil)))))) (sApp 3 (eCall none D_product_of (aCons (eVar 0) (aCons (eCall none D_negative_of (aCons (eVar 0) (aCons (eVar 5) aNil))) (aCons (eVar 2) aNil)))))))) (sRet (eA tupOfD (aCons (eVar 3) aNil))))))))
def D_reciprocal : Dn := denOf N_reciprocal.length false m_reciprocal
theorem ok_reciprocal (G : Gf K mg) (o_back_of : OkD P w K mg base 2 "back_of" ["ground", "one"] (spD K mg T false 2 D_back_of)) (o_is_nothing : OkD P w K mg base 1 "is_nothing" ["ground", "one"] (spD K mg T false 2 D_is_nothing)) (o_need_power_row : OkD P w K mg base 4 "need_power_row" ["ground", "row"] (spD K mg T false 2 D_need_power_row)) (o_negative_of : OkD P w K mg base 1 "negative_of" ["ground", "one"] (spD K mg T false 2 D_negative_of)) (o_number_of : OkD P w K mg base 1 "number_of" ["ground", "whole"] (spD K mg T false 2 D_number_of)) (o_product_of : OkD P w K mg base 2 "product_of" ["ground", "one", "other"] (spD K mg T false 3 D_product_of)) (o_sum_of : OkD P w K mg base 2 "sum_of" ["ground", "one", "other"] (spD K mg T false 3 D_sum_of)) : OkD P w K mg base 5 "reciprocal" ["ground", "row"] (spD K mg T false 2 D_reciprocal) :=
  okD_den (k := 4) G.d_reciprocal sc_reciprocal bp_reciprocal rfl fun cdv A outer s H E c F0 hc hr => (ds_cons (ds_exp (de_callO o_need_power_row hr (by decide) rfl rfl rfl rfl dx_takes (argn_cons (argn_cons argn_nil)) (dak_none (da_cons (de_var rfl (vis_of rfl)) (da_cons (de_var rfl (vis_of rfl)) da_nil))))) (ds_cons (ds_if (dt_val (de_callO o_is_nothing hr (by decide) rfl rfl rfl rfl dx_takes (argn_cons (argn_cons argn_nil)) (dak_none (da_cons (de_var rfl (vis_of rfl)) (da_cons (de_pidx rfl rfl (vis_of rfl) de_int (fun _ _ => rfl)) da_nil))))) (ds_one (ds_raiseO G.x_NotFound rfl dx_takes rfl rfl)) ds_nil) (ds_cons (ds_set sc_reciprocal.nd rfl (loc_of rfl) (de_callO o_back_of hr (by decide) rfl rfl rfl rfl dx_takes (argn_cons (argn_cons argn_nil)) (dak_none (da_cons (de_var rfl (vis_of rfl)) (da_cons (de_pidx rfl rfl (vis_of rfl) de_int (fun _ _ => rfl)) da_nil))))) (ds_cons (ds_own sc_reciprocal.nd rfl (loc_of rfl) (df_lst (da_cons (de_var rfl (vis_of rfl)) da_nil))) (ds_cons (ds_for dx_passes rfl (di_range2 rfl G.b_range (da_cons de_int (da_cons (de_plen rfl rfl G.b_len boot_len rfl (vis_of rfl)) da_nil))) (dg_name sc_reciprocal.nd rfl (loc_of rfl)) (ds_cons (ds_set sc_reciprocal.nd rfl (loc_of rfl) (de_callO o_number_of hr (by decide) rfl rfl rfl rfl dx_takes (argn_cons (argn_cons argn_nil)) (dak_none (da_cons (de_var rfl (vis_of rfl)) (da_cons de_int da_nil))))) (ds_cons (ds_for dx_passes rfl (di_range2 rfl G.b_range (da_cons de_int (da_cons (de_bin (fun _ _ => op_addD rfl) (de_var rfl (vis_of rfl)) de_int) da_nil))) (dg_name sc_reciprocal.nd rfl (loc_of rfl)) (ds_one (ds_set sc_reciprocal.nd rfl (loc_of rfl) (de_callO o_sum_of hr (by decide) rfl rfl rfl rfl dx_takes (argn_cons (argn_cons (argn_cons argn_nil))) (dak_none (da_cons (de_var rfl (vis_of rfl)) (da_cons (de_var rfl (vis_of rfl)) (da_cons (de_callO o_product_of hr (by decide) rfl rfl rfl rfl dx_takes (argn_cons (argn_cons (argn_cons argn_nil))) (dak_none (da_cons (de_var rfl (vis_of rfl)) (da_cons (de_pidx rfl rfl (vis_of rfl) (de_var rfl (vis_of rfl)) (fun _ _ => rfl)) (da_cons (de_pidx rfl rfl (vis_of rfl) (de_bin (fun _ _ => op_subD) (de_var rfl (vis_of rfl)) (de_var rfl (vis_of rfl))) (fun _ _ => rfl)) da_nil))))) da_nil)))))))) (ds_one (ds_app rfl (vis_of rfl) (de_callO o_product_of hr (by decide) rfl rfl rfl rfl dx_takes (argn_cons (argn_cons (argn_cons argn_nil))) (dak_none (da_cons (de_var rfl (vis_of rfl)) (da_cons (de_callO o_negative_of hr (by decide) rfl rfl rfl rfl dx_takes (argn_cons (argn_cons argn_nil)) (dak_none (da_cons (de_var rfl (vis_of rfl)) (da_cons (de_var rfl (vis_of rfl)) da_nil)))) (da_cons (de_var rfl (vis_of rfl)) da_nil)))))))))) (ds_one (ds_ret (de_callTy (fun _ _ => cr_tupOfD rfl) rfl G.b_tuple boot_tuple (da_cons (de_var rfl (vis_of rfl)) da_nil)))))))))
/-! ### _law_whole -/
abbrev N__law_whole : List Str := ["value", "low", "high"]
theorem sc__law_whole : FnScope N__law_whole ["value", "low", "high"] (defScope s__law_whole) := ⟨rfl, rfl, rfl, by decide +kernel, rfl, by decide +kernel, by decide +kernel⟩
theorem bp__law_whole : BindP "_law_whole" s__law_whole ["value", "low", "high"] := fun _ _ _ _ _ _ us hl => match us, hl with | [_, _, _], _ => rfl
theorem ok__law_whole (G : Gf K mg) (o__law_sort : OkD P w K mg base 1 "_law_sort" ["value"] (spD K mg T false 1 D__law_sort)) : OkD P w K mg base 2 "_law_whole" ["value", "low", "high"] (spD K mg T false 3 D__law_whole) :=
  okD_den (k := 1) G.d__law_whole sc__law_whole bp__law_whole rfl fun cdv A outer s H E c F0 hc hr => (ds_one (ds_ret (de_and (de_cmp (fun _ _ => op_eqD' rfl (u64 hr)) (de_callO o__law_sort hr (by decide) rfl rfl rfl rfl dx_takes (argn_cons argn_nil) (dak_none (da_cons (de_var rfl (vis_of rfl)) da_nil))) de_int (nomark _)) (de_one (de_chain (fun _ _ => op_leD) (fun _ _ => op_leD) (de_var rfl (vis_of rfl)) (de_var rfl (vis_of rfl)) (de_var rfl (vis_of rfl)))))))
/-! ### _law_is_number -/
abbrev N__law_is_number : List Str := ["ground", "value", "one"]
theorem sc__law_is_number : FnScope N__law_is_number ["ground", "value"] (defScope s__law_is_number) := ⟨rfl, rfl, rfl, by decide +kernel, rfl, by decide +kernel, by decide +kernel⟩
theorem bp__law_is_number : BindP "_law_is_number" s__law_is_number ["ground", "value"] := fun _ _ _ _ _ _ us hl => match us, hl with | [_, _], _ => rfl
theorem ok__law_is_number (G : Gf K mg) (o__law_divisor : OkD P w K mg base 1 "_law_divisor" ["one", "other"] (spD K mg T false 2 D__law_divisor)) (o__law_sort : OkD P w K mg base 1 "_law_sort" ["value"] (spD K mg T false 1 D__law_sort)) (o__law_whole : OkD P w K mg base 2 "_law_whole" ["value", "low", "high"] (spD K mg T false 3 D__law_whole)) : OkD P w K mg base 3 "_law_is_number" ["ground", "value"] (spD K mg T false 2 D__law_is_number) :=
  okD_den (k := 2) G.d__law_is_number sc__law_is_number bp__law_is_number rfl fun cdv A outer s H E c F0 hc hr => (ds_cons (ds_if (dt_cmp (fun _ _ => op_neD' rfl (u64 hr)) (de_var rfl (vis_of rfl)) de_int (nomark _)) (ds_one (ds_ret (de_callO o__law_whole hr (by decide) rfl rfl rfl rfl dx_takes (argn_cons (argn_cons (argn_cons argn_nil))) (dak_none (da_cons (de_var rfl (vis_of rfl)) (da_cons de_int (da_cons (de_bin (fun _ _ => op_subD) (de_var rfl (vis_of rfl)) de_int) da_nil))))))) ds_nil) (ds_cons (ds_if (dw_pt (dw_or (dt_cmp (fun _ _ => op_neD' rfl (u64 hr)) (de_callO o__law_sort hr (by decide) rfl rfl rfl rfl dx_takes (argn_cons argn_nil) (dak_none (da_cons (de_var rfl (vis_of rfl)) da_nil))) de_int (nomark _)) (dw_or (dt_cmp (fun _ _ => op_neD' rfl (u64 hr)) (de_plen rfl rfl G.b_len boot_len rfl (vis_of rfl)) de_int (nomark _)) (dw_or1 (dt_cmp (fun _ _ => op_neD' rfl (u64 hr)) (de_frz (df_lc rfl sc__law_is_number.nd (di_seq rfl (de_var rfl (vis_of rfl))) (own := [("one", 2)]) (blkOk_by rfl) (by decide) (fun _ _ _ _ _ => (dg_name sc__law_is_number.nd rfl (loc_of rfl))) (fun _ _ _ _ _ => (dts_one (dt_cmp (fun _ _ => op_neD' rfl (u64 hr)) (de_callO o__law_sort hr (by decide) rfl rfl rfl rfl tk_nw (argn_cons argn_nil) (dak_none (da_cons (de_var rfl (vis_of rfl)) da_nil))) de_int (nomark _)))) (fun _ _ _ _ _ => de_int))) (de_lst da_nil) (nomark _)))))) (ds_one (ds_ret de_bl)) ds_nil) (ds_one (ds_ret (de_and (de_cmp (fun _ _ => op_gtD) (de_pidx rfl rfl (vis_of rfl) de_int (fun _ _ => rfl)) de_int (nomark _)) (de_one (de_cmp (fun _ _ => op_eqD' rfl (u64 hr)) (de_callO o__law_divisor hr (by decide) rfl rfl rfl rfl dx_takes (argn_cons (argn_cons argn_nil)) (dak_none (da_cons (de_callB (fun _ _ => cr_absD) rfl G.b_abs boot_abs (da_cons (de_pidx rfl rfl (vis_of rfl) de_int (fun _ _ => rfl)) da_nil)) (da_cons (de_pidx rfl rfl (vis_of rfl) de_int (fun _ _ => rfl)) da_nil)))) de_int (nomark _))))))))
/-! ### _law_is_row -/
abbrev N__law_is_row : List Str := ["ground", "value", "one"]
theorem sc__law_is_row : FnScope N__law_is_row ["ground", "value"] (defScope s__law_is_row) := ⟨rfl, rfl, rfl, by decide +kernel, rfl, by decide +kernel, by decide +kernel⟩
theorem bp__law_is_row : BindP "_law_is_row" s__law_is_row ["ground", "value"] := fun _ _ _ _ _ _ us hl => match us, hl with | [_, _], _ => rfl
def m__law_is_row : M Fl := (sRet (eAnd (e2 eqD (eCall none D__law_sort (aCons (eVar 1) aNil)) (eC (.int 4))) (eAnd (eChain leD leD (eC (.int 3)) (pkF 1 (ret ()) fun d _ => lenD [d]) (eC (.int 16))) (e2 eqD (frz (eLc (bnd (eVar 1) itD) (gN 2) (tNot (tV (eCall none D__law_is_number (aCons (eVar 0) (aCons (eVar 2) aNil))))) (eC (.int 1)) [2])) (eA lstD aNil)))))
def D__law_is_row : Dn := denOf N__law_is_row.length false m__law_is_row
theorem ok__law_is_row (G : Gf K mg) (o__law_is_number : OkD P w K mg base 3 "_law_is_number" ["ground", "value"] (spD K mg T false 2 D__law_is_number)) (o__law_sort : OkD P w K mg base 1 "_law_sort" ["value"] (spD K mg T false 1 D__law_sort)) : OkD P w K mg base 4 "_law_is_row" ["ground", "value"] (spD K mg T false 2 D__law_is_row) :=
  okD_den (k := 3) G.d__law_is_row sc__law_is_row bp__law_is_row rfl fun cdv A outer s H E c F0 hc hr => (ds_one (ds_ret (de_and (de_cmp (fun _ _ => op_eqD' rfl (u64 hr)) (de_callO o__law_sort hr (by decide) rfl rfl rfl rfl dx_takes (argn_cons argn_nil) (dak_none (da_cons (de_var rfl (vis_of rfl)) da_nil))) de_int (nomark _)) (de_and (de_chain (fun _ _ => op_leD) (fun _ _ => op_leD) de_int (de_plen rfl rfl G.b_len boot_len rfl (vis_of rfl)) de_int) (de_one (de_cmp (fun _ _ => op_eqD' rfl (u64 hr)) (de_frz (df_lc rfl sc__law_is_row.nd (di_seq rfl (de_var rfl (vis_of rfl))) (own := [("one", 2)]) (blkOk_by rfl) (by decide) (fun _ _ _ _ _ => (dg_name sc__law_is_row.nd rfl (loc_of rfl))) (fun _ _ _ _ _ => (dts_one (dt_not (dt_val (de_callO o__law_is_number hr (by decide) rfl rfl rfl rfl tk_nw (argn_cons (argn_cons argn_nil)) (dak_none (da_cons (de_var rfl (vis_of rfl)) (da_cons (de_var rfl (vis_of rfl)) da_nil)))))))) (fun _ _ _ _ _ => de_int))) (de_lst da_nil) (nomark _)))))))
/-! ### turned_row -/
abbrev N_turned_row : List Str := ["ground", "row", "nought", "back", "found", "at", "off"]
theorem sc_turned_row : FnScope N_turned_row ["ground", "row"] (defScope s_turned_row) := ⟨rfl, rfl, rfl, by decide +kernel, rfl, by decide +kernel, by decide +kernel⟩
theorem bp_turned_row : BindP "turned_row" s_turned_row ["ground", "row"] := fun _ _ _ _ _ _ us hl => match us, hl with | [_, _], _ => rfl
def m_turned_row : M Fl := (sq (sExp (eCall none D_need_power_row (aCons (eVar 0) (aCons (eVar 1) aNil)))) (sq (sIf (tOr (tNot (tV (eCall none D_is_nothing (aCons (eVar 0) (aCons (pkF 1 (eC (.int 0)) idxD) aNil))))) (tV (eCall none D_is_nothing (aCons (eVar 0) (aCons (pkF 1 (eC (.int 1)) idxD) aNil))))) (exc "NotFound") (ret .nx)) (sq (sPar [2, 3] (oVal (eCall none D_number_of (aCons (eVar 0) (aCons (eC (.int 0)) aNil))) (oVal (eCall none D_back_of (aCons (eVar 0) (aCons (pkF 1 (eC (.int 1)) idxD) aNil))) oNil))) (sq (sOwn 4 (f2 repL (eA lstD (aCons (eVar 2) aNil)) (pkF 1 (ret ()) fun d _ => lenD [d]))) (sq (sStI 4 (eVar 3) (eC (.int 1))) (sq (sFor (bnd (aCons (eC (.int 2)) (aCons (pkF 1 (ret ()) fun d _ => lenD [d]) aNil)) rng2) (gN 5) (sq (sSet 6 (e2 idxD (eCall none D_put_row (aCons (eVar 0) (aCons (eVar 1) (aCons (pkF 4 (ret ()) fun d _ => tupOfD [d]) aNil)))) (eVar 5))) (sStI 4 (eCall none D_product_of (aCons (eVar 0) (aCons (eCall none D_negative_of (aCons (eVar 0) (aCons (eVar 6) aNil))) (aCons (eVar 3) aNil)))) (eVar 5)))) (sRet (pkF 4 (ret ()) fun d _ => tupOfD [d]))))))))
def D_turned_row : Dn := denOf N_turned_row.length false m_turned_row
theorem ok_turned_row (G : Gf K mg) (o_back_of : OkD P w K mg base 2 "back_of" ["ground", "one"] (spD K mg T false 2 D_back_of)) (o_is_nothing : OkD P w K mg base 1 "is_nothing" ["ground", "one"] (spD K mg T false 2 D_is_nothing)) (o_need_power_row : OkD P w K mg base 4 "need_power_row" ["ground", "row"] (spD K mg T false 2 D_need_power_row)) (o_negative_of : OkD P w K mg base 1 "negative_of" ["ground", "one"] (spD K mg T false 2 D_negative_of)) (o_number_of : OkD P w K mg base 1 "number_of" ["ground", "whole"] (spD K mg T false 2 D_number_of)) (o_product_of : OkD P w K mg base 2 "product_of" ["ground", "one", "other"] (spD K mg T false 3 D_product_of)) (o_put_row : OkD P w K mg base 4 "put_row" ["ground", "row", "second"] (spD K mg T false 3 D_put_row)) : OkD P w K mg base 5 "turned_row" ["ground", "row"] (spD K mg T false 2 D_turned_row) :=
  okD_den (k := 4) G.d_turned_row sc_turned_row bp_turned_row rfl fun cdv A outer s H E c F0 hc hr => (ds_cons (ds_exp (de_callO o_need_power_row hr (by decide) rfl rfl rfl rfl dx_takes (argn_cons (argn_cons argn_nil)) (dak_none (da_cons (de_var rfl (vis_of rfl)) (da_cons (de_var rfl (vis_of rfl)) da_nil))))) (ds_cons (ds_if (dw_pt (dw_or (dt_not (dt_val (de_callO o_is_nothing hr (by decide) rfl rfl rfl rfl dx_takes (argn_cons (argn_cons argn_nil)) (dak_none (da_cons (de_var rfl (vis_of rfl)) (da_cons (de_pidx rfl rfl (vis_of rfl) de_int (fun _ _ => rfl)) da_nil)))))) (dw_or1 (dt_val (de_callO o_is_nothing hr (by decide) rfl rfl rfl rfl dx_takes (argn_cons (argn_cons argn_nil)) (dak_none (da_cons (de_var rfl (vis_of rfl)) (da_cons (de_pidx rfl rfl (vis_of rfl) de_int (fun _ _ => rfl)) da_nil)))))))) (ds_one (ds_raiseO G.x_NotFound rfl dx_takes rfl rfl)) ds_nil) (ds_cons (ds_par2 rfl sc_turned_row.nd rfl rfl (by decide) rfl rfl (dos_val (de_callO o_number_of hr (by decide) rfl rfl rfl rfl dx_takes (argn_cons (argn_cons argn_nil)) (dak_none (da_cons (de_var rfl (vis_of rfl)) (da_cons de_int da_nil)))) (dos_val (de_callO o_back_of hr (by decide) rfl rfl rfl rfl dx_takes (argn_cons (argn_cons argn_nil)) (dak_none (da_cons (de_var rfl (vis_of rfl)) (da_cons (de_pidx rfl rfl (vis_of rfl) de_int (fun _ _ => rfl)) da_nil)))) dos_nil)) rfl) (ds_cons (ds_own sc_turned_row.nd rfl (loc_of rfl) (df_rep (de_lst (da_cons (de_var rfl (vis_of rfl)) da_nil)) (de_plen rfl rfl G.b_len boot_len rfl (vis_of rfl)))) (ds_cons (ds_stI rfl (vis_of rfl) (de_var rfl (vis_of rfl)) de_int) (ds_cons (ds_for dx_passes rfl (di_range2 rfl G.b_range (da_cons de_int (da_cons (de_plen rfl rfl G.b_len boot_len rfl (vis_of rfl)) da_nil))) (dg_name sc_turned_row.nd rfl (loc_of rfl)) (ds_cons (ds_set sc_turned_row.nd rfl (loc_of rfl) (de_idx rfl (de_callO o_put_row hr (by decide) rfl rfl rfl rfl dx_takes (argn_cons (argn_cons (argn_cons argn_nil))) (dak_none (da_cons (de_var rfl (vis_of rfl)) (da_cons (de_var rfl (vis_of rfl)) (da_cons (de_ptup rfl rfl G.b_tuple boot_tuple rfl (vis_of rfl)) da_nil))))) (de_var rfl (vis_of rfl)) (fun _ _ => rfl))) (ds_one (ds_stI rfl (vis_of rfl) (de_callO o_product_of hr (by decide) rfl rfl rfl rfl dx_takes (argn_cons (argn_cons (argn_cons argn_nil))) (dak_none (da_cons (de_var rfl (vis_of rfl)) (da_cons (de_callO o_negative_of hr (by decide) rfl rfl rfl rfl dx_takes (argn_cons (argn_cons argn_nil)) (dak_none (da_cons (de_var rfl (vis_of rfl)) (da_cons (de_var rfl (vis_of rfl)) da_nil)))) (da_cons (de_var rfl (vis_of rfl)) da_nil))))) (de_var rfl (vis_of rfl)))))) (ds_one (ds_ret (de_ptup rfl rfl G.b_tuple boot_tuple rfl (vis_of rfl))))))))))
/-! ### _law_bent -/
abbrev N__law_bent : List Str := ["cup", "value", "some", "at", "way"]
theorem sc__law_bent : FnScope N__law_bent ["cup", "value"] (defScope s__law_bent) := ⟨rfl, rfl, rfl, by decide +kernel, rfl, by decide +kernel, by decide +kernel⟩
theorem bp__law_bent : BindP "_law_bent" s__law_bent ["cup", "value"] := fun _ _ _ _ _ _ us hl => match us, hl with | [_, _], _ => rfl
theorem ok__law_bent (G : Gf K mg) (o__law_roll : OkD P w K mg base 1 "_law_roll" ["cup", "many"] (spD K mg T true 1 D__law_roll)) (o__law_some : OkD P w K mg base 2 "_law_some" ["cup", "things"] (spD K mg T true 1 D__law_some)) (o__law_sort : OkD P w K mg base 1 "_law_sort" ["value"] (spD K mg T false 1 D__law_sort)) : ∀ n, OkD P w K mg base (n + 2) "_law_bent" ["cup", "value"] (spD K mg T true 1 (L__law_bent n))
  | 0 => okD_bad G.d__law_bent bp__law_bent rfl
  | i + 1 => by
    have o__law_bent := ok__law_bent G o__law_roll o__law_some o__law_sort i
    exact okD_den (k := i + 2) G.d__law_bent sc__law_bent bp__law_bent rfl fun cdv A outer s H E c F0 hc hr => (ds_cons (ds_if (dw_pt (dw_or (dt_not (dt_val (de_isi kit_tup rfl G.b_isinstance boot_isinstance rfl G.b_tuple boot_tuple rfl (de_var rfl (vis_of rfl))))) (dw_or (dt_cmp (fun _ _ => op_eqD' rfl (u64 hr)) (de_var rfl (vis_of rfl)) (de_tup da_nil) (nomark _)) (dw_or1 (dt_cmp (fun _ _ => op_eqD' rfl (u64 hr)) (de_callO o__law_roll hr (by omega) rfl rfl rfl rfl dx_takes (argn_cons argn_nil) (dak_cup rfl (vis_of rfl) (da_cons de_int da_nil))) de_int (nomark _)))))) (ds_cons (ds_set sc__law_bent.nd rfl (loc_of rfl) (de_lst (da_cons de_non (da_cons de_bl (da_cons de_bl (da_cons de_int (da_cons de_int (da_cons (de_un (fun _ _ => un_negD) de_int) (da_cons de_int (da_cons de_int (da_cons de_str (da_cons (de_tup da_nil) (da_cons (de_lst da_nil) (da_cons (de_tup (da_cons de_int da_nil)) (da_cons (de_tup (da_cons de_int (da_cons de_int da_nil))) (da_cons (de_tup (da_cons de_int (da_cons de_int da_nil))) (da_cons (de_tup (da_cons de_int (da_cons de_int da_nil))) da_nil))))))))))))))))) (ds_one (ds_ret (de_callO o__law_some hr (by omega) rfl rfl rfl rfl dx_takes (argn_cons argn_nil) (dak_cup rfl (vis_of rfl) (da_cons (de_bin (fun _ _ => op_addD rfl) (de_var rfl (vis_of rfl)) (de_if (dt_cmp (fun _ _ => op_eqD' rfl (u64 hr)) (de_callO o__law_sort hr (by omega) rfl rfl rfl rfl dx_takes (argn_cons argn_nil) (dak_none (da_cons (de_var rfl (vis_of rfl)) da_nil))) de_int (nomark _)) (de_bin (fun _ _ => op_mulD rfl) (de_lst (da_cons (de_bin (fun _ _ => op_addD rfl) (de_var rfl (vis_of rfl)) de_int) (da_cons (de_bin (fun _ _ => op_subD) (de_var rfl (vis_of rfl)) de_int) da_nil))) de_int) (de_lst da_nil))) da_nil)))))) ds_nil) (ds_cons (ds_par2 rfl sc__law_bent.nd rfl rfl (by decide) rfl rfl (dos_val (de_callO o__law_roll hr (by omega) rfl rfl rfl rfl dx_takes (argn_cons argn_nil) (dak_cup rfl (vis_of rfl) (da_cons (de_plen rfl rfl G.b_len boot_len rfl (vis_of rfl)) da_nil))) (dos_val (de_callO o__law_roll hr (by omega) rfl rfl rfl rfl dx_takes (argn_cons argn_nil) (dak_cup rfl (vis_of rfl) (da_cons de_int da_nil))) dos_nil)) rfl) (ds_cons (ds_if (dt_cmp (fun _ _ => op_ltD) (de_var rfl (vis_of rfl)) de_int (nomark _)) (ds_one (ds_ret (de_bin (fun _ _ => op_addD rfl) (de_bin (fun _ _ => op_addD rfl) (de_psli rfl rfl (vis_of rfl) do_none (do_some (de_var rfl (vis_of rfl)))) (de_psli rfl rfl (vis_of rfl) (do_some (de_bin (fun _ _ => op_addD rfl) (de_var rfl (vis_of rfl)) (de_var rfl (vis_of rfl)))) do_none)) (de_if (dt_cmp (fun _ _ => op_eqD' rfl (u64 hr)) (de_var rfl (vis_of rfl)) de_int (nomark _)) (de_psli rfl rfl (vis_of rfl) (do_some (de_var rfl (vis_of rfl))) (do_some (de_bin (fun _ _ => op_addD rfl) (de_var rfl (vis_of rfl)) de_int))) (de_tup da_nil))))) ds_nil) (ds_cons (ds_if (dt_cmp (fun _ _ => op_eqD' rfl (u64 hr)) (de_var rfl (vis_of rfl)) de_int (nomark _)) (ds_one (ds_ret (de_callTy (fun _ _ => cr_lstOfD rfl) rfl G.b_list boot_list (da_cons (de_var rfl (vis_of rfl)) da_nil)))) ds_nil) (ds_cons (ds_if (dt_cmp (fun _ _ => op_eqD' rfl (u64 hr)) (de_var rfl (vis_of rfl)) de_int (nomark _)) (ds_one (ds_ret (de_rev rfl (de_var rfl (vis_of rfl))))) ds_nil) (ds_one (ds_ret (de_bin (fun _ _ => op_addD rfl) (de_bin (fun _ _ => op_addD rfl) (de_psli rfl rfl (vis_of rfl) do_none (do_some (de_var rfl (vis_of rfl)))) (de_tup (da_cons (de_callO o__law_bent hr (Nat.le_refl _) rfl rfl rfl rfl dx_takes (argn_cons argn_nil) (dak_cup rfl (vis_of rfl) (da_cons (de_pidx rfl rfl (vis_of rfl) (de_var rfl (vis_of rfl)) (fun _ _ => rfl)) da_nil))) da_nil))) (de_psli rfl rfl (vis_of rfl) (do_some (de_bin (fun _ _ => op_addD rfl) (de_var rfl (vis_of rfl)) de_int)) do_none)))))))))
/-! ### _law_right -/
abbrev N__law_right : List Str := ["cup", "ground", "many", "row", "second", "inner", "one", "unit", "told", "back", "values", "some", "turn", "value"]
theorem sc__law_right : FnScope N__law_right ["cup", "ground"] (defScope s__law_right) := ⟨rfl, rfl, rfl, by decide +kernel, rfl, by decide +kernel, by decide +kernel⟩
theorem bp__law_right : BindP "_law_right" s__law_right ["cup", "ground"] := fun _ _ _ _ _ _ us hl => match us, hl with | [_, _], _ => rfl
abbrev q__law_right : Str := ("_law_right" : Str) ++ ".<locals>." ++ "<lambda>"
def m__law_right : M Fl := (sq (sSet 2 (e2 addD (eC (.int 3)) (eCall (some 0) D__law_roll (aCons (eCall (some 0) D__law_some (aCons (eA lstD (aCons (eC (.int 2)) (aCons (eC (.int 6)) aNil))) aNil)) aNil)))) (sq (sPar [3, 4, 5] (oVal (eCall (some 0) D__law_row (aCons (eVar 1) (aCons (eVar 2) (aCons (eC (.int 0)) aNil)))) (oVal (eCall (some 0) D__law_row (aCons (eVar 1) (aCons (eVar 2) (aCons (eCall (some 0) D__law_roll (aCons (eC (.int 2)) aNil)) aNil)))) (oVal (eCall (some 0) D__law_row (aCons (eVar 1) (aCons (eVar 2) (aCons (eC (.int 1)) aNil)))) oNil)))) (sq (sSet 6 (e2 addD (eA tupD (aCons (eCall none D__law_whole_of (aCons (eVar 1) (aCons (eC (.int 1)) aNil))) aNil)) (e2 mulD (eA tupD (aCons (eCall none D__law_whole_of (aCons (eVar 1) (aCons (eC (.int 0)) aNil))) aNil)) (e2 subD (eVar 2) (eC (.int 1)))))) (sq (sSet 7 (e2 addD (eA tupD (aCons (eCall none D__law_whole_of (aCons (eVar 1) (aCons (eC (.int 0)) aNil))) (aCons (eCall none D__law_whole_of (aCons (eVar 1) (aCons (eC (.int 1)) aNil))) aNil))) (e2 mulD (eA tupD (aCons (eCall none D__law_whole_of (aCons (eVar 1) (aCons (eC (.int 0)) aNil))) aNil)) (e2 subD (eVar 2) (eC (.int 2)))))) (sq (sSet 8 (eA lstD (aCons (eCall none D_is_power_row (aCons (eVar 1) (aCons (eVar 3) aNil))) (aCons (eCall none D_multiplied_rows (aCons (eVar 1) (aCons (eVar 3) (aCons (eVar 4) aNil)))) (aCons (eCall none D_put_into_row (aCons (eVar 1) (aCons (eVar 3) (aCons (eVar 5) aNil)))) aNil))))) (sq (sIf (tNot (tV (eCall none D__law_like (aCons (eVar 8) (aCons (eA lstD (aCons (eC (.bool true)) (aCons (eCall none D__law_times (aCons (eVar 1) (aCons (eVar 3) (aCons (eVar 4) aNil)))) (aCons (eCall none D__law_put (aCons (eVar 1) (aCons (eVar 3) (aCons (eVar 5) aNil)))) aNil)))) aNil))))) (sRet (eC (.bool false))) (ret .nx)) (sq (sFor (bnd (eA tupD (aCons (eVar 3) (aCons (eVar 4) aNil))) itD) (gN 11) (sq (sIf (tV (e2 eqD (pkF 11 (eC (.int 0)) idxD) (eCall none D__law_whole_of (aCons (eVar 1) (aCons (eC (.int 0)) aNil))))) (sq (sIf (tV (e2 neD (eErr words (eCall none D_reciprocal (aCons (eVar 1) (aCons (eVar 11) aNil)))) (eC (.str "none")))) (sRet (eC (.bool false))) (ret .nx)) (ret .ct)) (ret .nx)) (sq (sSet 9 (eCall none D_reciprocal (aCons (eVar 1) (aCons (eVar 11) aNil)))) (sIf (tOr (tNot (tV (eCall none D__law_is_row (aCons (eVar 1) (aCons (eVar 9) aNil))))) (tOr (tV (e2 neD (pkF 9 (ret ()) fun d _ => lenD [d]) (eVar 2))) (tV (e2 neD (eCall none D__law_times (aCons (eVar 1) (aCons (eVar 11) (aCons (eVar 9) aNil)))) (eVar 6))))) (sRet (eC (.bool false))) (ret .nx))))) (sq (sFor (bnd (eA tupD (aCons (eVar 5) (aCons (eVar 3) (aCons (eVar 4) (aCons (eVar 7) aNil))))) itD) (gN 11) (sq (sIf (tOr (tV (e2 neD (pkF 11 (eC (.int 0)) idxD) (eCall none D__law_whole_of (aCons (eVar 1) (aCons (eC (.int 0)) aNil))))) (tV (e2 eqD (pkF 11 (eC (.int 1)) idxD) (eCall none D__law_whole_of (aCons (eVar 1) (aCons (eC (.int 0)) aNil)))))) (sq (sIf (tV (e2 neD (eErr words (eCall none D_turned_row (aCons (eVar 1) (aCons (eVar 11) aNil)))) (eC (.str "none")))) (sRet (eC (.bool false))) (ret .nx)) (ret .ct)) (ret .nx)) (sq (sSet 9 (eCall none D_turned_row (aCons (eVar 1) (aCons (eVar 11) aNil)))) (sIf (tOr (tNot (tV (eCall none D__law_is_row (aCons (eVar 1) (aCons (eVar 9) aNil))))) (tOr (tV (e2 neD (pkF 9 (ret ()) fun d _ => lenD [d]) (eVar 2))) (tOr (tV (e2 neD (eCall none D__law_put (aCons (eVar 1) (aCons (eVar 11) (aCons (eVar 9) aNil)))) (eVar 7))) (tV (e2 neD (eCall none D__law_put (aCons (eVar 1) (aCons (eVar 9) (aCons (eVar 11) aNil)))) (eVar 7)))))) (sRet (eC (.bool false))) (ret .nx))))) (sq (sSet 10 (e2 addD (frz (eLc (bnd (aCons (eC (.int 6)) aNil) rng1) (gN 12) (ret true) (eCall (some 0) D__law_bent (aCons (eVar 3) aNil)) [12])) (eA lstD (aCons (pkF 3 (two (ret none) (bnd (eC (.int 2)) asI)) fun d y => sliD y.1 y.2 d) (aCons (e2 mulD (eVar 3) (eC (.int 9))) (aCons (eA lstOfD (aCons (eVar 3) aNil)) (aCons (eC .none) (aCons (eA tupOfD (aCons (frz (eLc (bnd (eVar 3) itD) (gN 6) (ret true) (eA lstD (aCons (eVar 6) aNil)) [6])) aNil)) aNil)))))))) (sRet (e2 eqD (frz (eLc (bnd (eVar 10) itD) (gN 13) (tNot (tV (eCall none D__law_like (aCons (eCall none D_is_power_row (aCons (eVar 1) (aCons (eVar 13) aNil))) (aCons (eCall none D__law_is_row (aCons (eVar 1) (aCons (eVar 13) aNil))) aNil))))) (eC (.int 1)) [13])) (eA lstD aNil))))))))))))
def D__law_right : Dn := denOf N__law_right.length true m__law_right
theorem ok__law_right (G : Gf K mg) (TB : TabB base mg (He.codeOf K ("_law_right", none)) (He.tabOf K (He.codeOf K ("_law_right", none)))) (hT1 : (He.tabOf K (He.codeOf K ("_law_right", none)), q__law_right) ∈ T) (hT2 : ∀ p ∈ T, p.1 = He.tabOf K (He.codeOf K ("_law_right", none)) → p.2 = q__law_right) (o__law_bent : OkD P w K mg base 10 "_law_bent" ["cup", "value"] (spD K mg T true 1 D__law_bent)) (o__law_is_row : OkD P w K mg base 4 "_law_is_row" ["ground", "value"] (spD K mg T false 2 D__law_is_row)) (o__law_like : OkD P w K mg base 9 "_law_like" ["one", "other"] (spD K mg T false 2 D__law_like)) (o__law_put : OkD P w K mg base 5 "_law_put" ["ground", "row", "second"] (spD K mg T false 3 D__law_put)) (o__law_roll : OkD P w K mg base 1 "_law_roll" ["cup", "many"] (spD K mg T true 1 D__law_roll)) (o__law_row : OkD P w K mg base 3 "_law_row" ["cup", "ground", "many", "begin"] (spD K mg T true 3 D__law_row)) (o__law_some : OkD P w K mg base 2 "_law_some" ["cup", "things"] (spD K mg T true 1 D__law_some)) (o__law_times : OkD P w K mg base 4 "_law_times" ["ground", "row", "second"] (spD K mg T false 3 D__law_times)) (o__law_whole_of : OkD P w K mg base 1 "_law_whole_of" ["ground", "whole"] (spD K mg T false 2 D__law_whole_of)) (o_is_power_row : OkD P w K mg base 4 "is_power_row" ["ground", "value"] (spD K mg T false 2 D_is_power_row)) (o_multiplied_rows : OkD P w K mg base 5 "multiplied_rows" ["ground", "row", "second"] (spD K mg T false 3 D_multiplied_rows)) (o_put_into_row : OkD P w K mg base 5 "put_into_row" ["ground", "row", "second"] (spD K mg T false 3 D_put_into_row)) (o_reciprocal : OkD P w K mg base 5 "reciprocal" ["ground", "row"] (spD K mg T false 2 D_reciprocal)) (o_turned_row : OkD P w K mg base 5 "turned_row" ["ground", "row"] (spD K mg T false 2 D_turned_row)) : OkD P w K mg base 11 "_law_right" ["cup", "ground"] (spD K mg T true 1 D__law_right) :=
  okD_den (k := 10) G.d__law_right sc__law_right bp__law_right rfl fun cdv A outer s H E c F0 hc hr => (ds_cons (ds_set sc__law_right.nd rfl (loc_of rfl) (de_bin (fun _ _ => op_addD rfl) de_int (de_callO o__law_roll hr (by decide) rfl rfl rfl rfl dx_takes (argn_cons argn_nil) (dak_cup rfl (vis_of rfl) (da_cons (de_callO o__law_some hr (by decide) rfl rfl rfl rfl dx_takes (argn_cons argn_nil) (dak_cup rfl (vis_of rfl) (da_cons (de_lst (da_cons de_int (da_cons de_int da_nil))) da_nil))) da_nil))))) (ds_cons (ds_parN (n := 3) rfl (.cons (pg_name sc__law_right.nd rfl (loc_of rfl)) (.cons (pg_name sc__law_right.nd rfl (loc_of rfl)) (.cons (pg_name sc__law_right.nd rfl (loc_of rfl)) .nil rfl) rfl) rfl) (dos_val (de_callO o__law_row hr (by decide) rfl rfl rfl rfl dx_takes (argn_cons (argn_cons (argn_cons argn_nil))) (dak_cup rfl (vis_of rfl) (da_cons (de_var rfl (vis_of rfl)) (da_cons (de_var rfl (vis_of rfl)) (da_cons de_int da_nil))))) (dos_val (de_callO o__law_row hr (by decide) rfl rfl rfl rfl dx_takes (argn_cons (argn_cons (argn_cons argn_nil))) (dak_cup rfl (vis_of rfl) (da_cons (de_var rfl (vis_of rfl)) (da_cons (de_var rfl (vis_of rfl)) (da_cons (de_callO o__law_roll hr (by decide) rfl rfl rfl rfl dx_takes (argn_cons argn_nil) (dak_cup rfl (vis_of rfl) (da_cons de_int da_nil))) da_nil))))) (dos_val (de_callO o__law_row hr (by decide) rfl rfl rfl rfl dx_takes (argn_cons (argn_cons (argn_cons argn_nil))) (dak_cup rfl (vis_of rfl) (da_cons (de_var rfl (vis_of rfl)) (da_cons (de_var rfl (vis_of rfl)) (da_cons de_int da_nil))))) dos_nil))) (by decide)) (ds_cons (ds_set sc__law_right.nd rfl (loc_of rfl) (de_bin (fun _ _ => op_addD rfl) (de_tup (da_cons (de_callO o__law_whole_of hr (by decide) rfl rfl rfl rfl dx_takes (argn_cons (argn_cons argn_nil)) (dak_none (da_cons (de_var rfl (vis_of rfl)) (da_cons de_int da_nil)))) da_nil)) (de_bin (fun _ _ => op_mulD rfl) (de_tup (da_cons (de_callO o__law_whole_of hr (by decide) rfl rfl rfl rfl dx_takes (argn_cons (argn_cons argn_nil)) (dak_none (da_cons (de_var rfl (vis_of rfl)) (da_cons de_int da_nil)))) da_nil)) (de_bin (fun _ _ => op_subD) (de_var rfl (vis_of rfl)) de_int)))) (ds_cons (ds_set sc__law_right.nd rfl (loc_of rfl) (de_bin (fun _ _ => op_addD rfl) (de_tup (da_cons (de_callO o__law_whole_of hr (by decide) rfl rfl rfl rfl dx_takes (argn_cons (argn_cons argn_nil)) (dak_none (da_cons (de_var rfl (vis_of rfl)) (da_cons de_int da_nil)))) (da_cons (de_callO o__law_whole_of hr (by decide) rfl rfl rfl rfl dx_takes (argn_cons (argn_cons argn_nil)) (dak_none (da_cons (de_var rfl (vis_of rfl)) (da_cons de_int da_nil)))) da_nil))) (de_bin (fun _ _ => op_mulD rfl) (de_tup (da_cons (de_callO o__law_whole_of hr (by decide) rfl rfl rfl rfl dx_takes (argn_cons (argn_cons argn_nil)) (dak_none (da_cons (de_var rfl (vis_of rfl)) (da_cons de_int da_nil)))) da_nil)) (de_bin (fun _ _ => op_subD) (de_var rfl (vis_of rfl)) de_int)))) (ds_cons (ds_set sc__law_right.nd rfl (loc_of rfl) (de_lst (da_cons (de_callO o_is_power_row hr (by decide) rfl rfl rfl rfl dx_takes (argn_cons (argn_cons argn_nil)) (dak_none (da_cons (de_var rfl (vis_of rfl)) (da_cons (de_var rfl (vis_of rfl)) da_nil)))) (da_cons (de_callO o_multiplied_rows hr (by decide) rfl rfl rfl rfl dx_takes (argn_cons (argn_cons (argn_cons argn_nil))) (dak_none (da_cons (de_var rfl (vis_of rfl)) (da_cons (de_var rfl (vis_of rfl)) (da_cons (de_var rfl (vis_of rfl)) da_nil))))) (da_cons (de_callO o_put_into_row hr (by decide) rfl rfl rfl rfl dx_takes (argn_cons (argn_cons (argn_cons argn_nil))) (dak_none (da_cons (de_var rfl (vis_of rfl)) (da_cons (de_var rfl (vis_of rfl)) (da_cons (de_var rfl (vis_of rfl)) da_nil))))) da_nil))))) (ds_cons (ds_if (dt_not (dt_val (de_callO o__law_like hr (by decide) rfl rfl rfl rfl dx_takes (argn_cons (argn_cons argn_nil)) (dak_none (da_cons (de_var rfl (vis_of rfl)) (da_cons (de_lst (da_cons de_bl (da_cons (de_callO o__law_times hr (by decide) rfl rfl rfl rfl dx_takes (argn_cons (argn_cons (argn_cons argn_nil))) (dak_none (da_cons (de_var rfl (vis_of rfl)) (da_cons (de_var rfl (vis_of rfl)) (da_cons (de_var rfl (vis_of rfl)) da_nil))))) (da_cons (de_callO o__law_put hr (by decide) rfl rfl rfl rfl dx_takes (argn_cons (argn_cons (argn_cons argn_nil))) (dak_none (da_cons (de_var rfl (vis_of rfl)) (da_cons (de_var rfl (vis_of rfl)) (da_cons (de_var rfl (vis_of rfl)) da_nil))))) da_nil)))) da_nil)))))) (ds_one (ds_ret de_bl)) ds_nil) (ds_cons (ds_for dx_passes rfl (di_seq rfl (de_tup (da_cons (de_var rfl (vis_of rfl)) (da_cons (de_var rfl (vis_of rfl)) da_nil)))) (dg_name sc__law_right.nd rfl (loc_of rfl)) (ds_cons (ds_if (dt_cmp (fun _ _ => op_eqD' rfl (u64 hr)) (de_pidx rfl rfl (vis_of rfl) de_int (fun _ _ => rfl)) (de_callO o__law_whole_of hr (by decide) rfl rfl rfl rfl dx_takes (argn_cons (argn_cons argn_nil)) (dak_none (da_cons (de_var rfl (vis_of rfl)) (da_cons de_int da_nil)))) (nomark _)) (ds_cons (ds_if (dt_cmp (fun _ _ => op_neD' rfl (u64 hr)) (de_errO (k := 8) G.d__law_error sc__law_error bp__law_error rfl rfl (vis_of rfl) (fun cdv => err_fact G _ _ cdv) rfl rfl TB hc hT1 hT2 hr (by decide) (lamS_by rfl) rfl (fun _ _ _ _ _ => rfl) (fun A outer s H f c1 C1 hr e1 e2 e3 e4 => by
      obtain ⟨K1, mg1, T1, c1, H1, F1, P1, W1⟩ := C1
      cases e1
      cases e2
      cases e3
      cases e4
      exact (de_callO o_reciprocal hr (by decide) rfl rfl rfl rfl lamN_takes (argn_cons (argn_cons argn_nil)) (dak_none (da_cons (de_var rfl (vis_of rfl)) (da_cons (de_var rfl (vis_of rfl)) da_nil)))))) de_str (nomark _)) (ds_one (ds_ret de_bl)) ds_nil) (ds_one ds_cont)) ds_nil) (ds_cons (ds_set sc__law_right.nd rfl (loc_of rfl) (de_callO o_reciprocal hr (by decide) rfl rfl rfl rfl dx_takes (argn_cons (argn_cons argn_nil)) (dak_none (da_cons (de_var rfl (vis_of rfl)) (da_cons (de_var rfl (vis_of rfl)) da_nil))))) (ds_one (ds_if (dw_pt (dw_or (dt_not (dt_val (de_callO o__law_is_row hr (by decide) rfl rfl rfl rfl dx_takes (argn_cons (argn_cons argn_nil)) (dak_none (da_cons (de_var rfl (vis_of rfl)) (da_cons (de_var rfl (vis_of rfl)) da_nil)))))) (dw_or (dt_cmp (fun _ _ => op_neD' rfl (u64 hr)) (de_plen rfl rfl G.b_len boot_len rfl (vis_of rfl)) (de_var rfl (vis_of rfl)) (nomark _)) (dw_or1 (dt_cmp (fun _ _ => op_neD' rfl (u64 hr)) (de_callO o__law_times hr (by decide) rfl rfl rfl rfl dx_takes (argn_cons (argn_cons (argn_cons argn_nil))) (dak_none (da_cons (de_var rfl (vis_of rfl)) (da_cons (de_var rfl (vis_of rfl)) (da_cons (de_var rfl (vis_of rfl)) da_nil))))) (de_var rfl (vis_of rfl)) (nomark _)))))) (ds_one (ds_ret de_bl)) ds_nil))))) (ds_cons (ds_for dx_passes rfl (di_seq rfl (de_tup (da_cons (de_var rfl (vis_of rfl)) (da_cons (de_var rfl (vis_of rfl)) (da_cons (de_var rfl (vis_of rfl)) (da_cons (de_var rfl (vis_of rfl)) da_nil)))))) (dg_name sc__law_right.nd rfl (loc_of rfl)) (ds_cons (ds_if (dw_pt (dw_or (dt_cmp (fun _ _ => op_neD' rfl (u64 hr)) (de_pidx rfl rfl (vis_of rfl) de_int (fun _ _ => rfl)) (de_callO o__law_whole_of hr (by decide) rfl rfl rfl rfl dx_takes (argn_cons (argn_cons argn_nil)) (dak_none (da_cons (de_var rfl (vis_of rfl)) (da_cons de_int da_nil)))) (nomark _)) (dw_or1 (dt_cmp (fun _ _ => op_eqD' rfl (u64 hr)) (de_pidx rfl rfl (vis_of rfl) de_int (fun _ _ => rfl)) (de_callO o__law_whole_of hr (by decide) rfl rfl rfl rfl dx_takes (argn_cons (argn_cons argn_nil)) (dak_none (da_cons (de_var rfl (vis_of rfl)) (da_cons de_int da_nil)))) (nomark _))))) (ds_cons (ds_if (dt_cmp (fun _ _ => op_neD' rfl (u64 hr)) (de_errO (k := 8) G.d__law_error sc__law_error bp__law_error rfl rfl (vis_of rfl) (fun cdv => err_fact G _ _ cdv) rfl rfl TB hc hT1 hT2 hr (by decide) (lamS_by rfl) rfl (fun _ _ _ _ _ => rfl) (fun A outer s H f c1 C1 hr e1 e2 e3 e4 => by
      obtain ⟨K1, mg1, T1, c1, H1, F1, P1, W1⟩ := C1
      cases e1
      cases e2
      cases e3
      cases e4
      exact (de_callO o_turned_row hr (by decide) rfl rfl rfl rfl lamN_takes (argn_cons (argn_cons argn_nil)) (dak_none (da_cons (de_var rfl (vis_of rfl)) (da_cons (de_var rfl (vis_of rfl)) da_nil)))))) de_str (nomark _)) (ds_one (ds_ret de_bl)) ds_nil) (ds_one ds_cont)) ds_nil) (ds_cons (ds_set sc__law_right.nd rfl (loc_of rfl) (de_callO o_turned_row hr (by decide) rfl rfl rfl rfl dx_takes (argn_cons (argn_cons argn_nil)) (dak_none (da_cons (de_var rfl (vis_of rfl)) (da_cons (de_var rfl (vis_of rfl)) da_nil))))) (ds_one (ds_if (dw_pt (dw_or (dt_not (dt_val (de_callO o__law_is_row hr (by decide) rfl rfl rfl rfl dx_takes (argn_cons (argn_cons argn_nil)) (dak_none (da_cons (de_var rfl (vis_of rfl)) (da_cons (de_var rfl (vis_of rfl)) da_nil)))))) (dw_or (dt_cmp (fun _ _ => op_neD' rfl (u64 hr)) (de_plen rfl rfl G.b_len boot_len rfl (vis_of rfl)) (de_var rfl (vis_of rfl)) (nomark _)) (dw_or (dt_cmp (fun _ _ => op_neD' rfl (u64 hr)) (de_callO o__law_put hr (by decide) rfl rfl rfl rfl dx_takes (argn_cons (argn_cons (argn_cons argn_nil))) (dak_none (da_cons (de_var rfl (vis_of rfl)) (da_cons (de_var rfl (vis_of rfl)) (da_cons (de_var rfl (vis_of rfl)) da_nil))))) (de_var rfl (vis_of rfl)) (nomark _)) (dw_or1 (dt_cmp (fun _ _ => op_neD' rfl (u64 hr)) (de_callO o__law_put hr (by decide) rfl rfl rfl rfl dx_takes (argn_cons (argn_cons (argn_cons argn_nil))) (dak_none (da_cons (de_var rfl (vis_of rfl)) (da_cons (de_var rfl (vis_of rfl)) (da_cons (de_var rfl (vis_of rfl)) da_nil))))) (de_var rfl (vis_of rfl)) (nomark _))))))) (ds_one (ds_ret de_bl)) ds_nil))))) (ds_cons (ds_set sc__law_right.nd rfl (loc_of rfl) (de_bin (fun _ _ => op_addD rfl) (de_frz (df_lc rfl sc__law_right.nd (di_range1 rfl G.b_range (da_cons de_int da_nil)) (own := [("turn", 12)]) (blkOk_by rfl) (by decide) (fun _ _ _ _ _ => (dg_name sc__law_right.nd rfl (loc_of rfl))) (fun _ _ _ _ _ => dts_nil) (fun _ _ _ _ _ => (de_callO o__law_bent hr (by decide) rfl rfl rfl rfl tk_nw (argn_cons argn_nil) (dak_cup rfl (vis_of rfl) (da_cons (de_var rfl (vis_of rfl)) da_nil)))))) (de_lst (da_cons (de_psli rfl rfl (vis_of rfl) do_none (do_some de_int)) (da_cons (de_bin (fun _ _ => op_mulD rfl) (de_var rfl (vis_of rfl)) de_int) (da_cons (de_callTy (fun _ _ => cr_lstOfD rfl) rfl G.b_list boot_list (da_cons (de_var rfl (vis_of rfl)) da_nil)) (da_cons de_non (da_cons (de_callTy (fun _ _ => cr_tupOfD rfl) rfl G.b_tuple boot_tuple (da_cons (de_frz (df_lc rfl sc__law_right.nd (di_seq rfl (de_var rfl (vis_of rfl))) (own := [("one", 6)]) (blkOk_by rfl) (by decide) (fun _ _ _ _ _ => (dg_name sc__law_right.nd rfl (loc_of rfl))) (fun _ _ _ _ _ => dts_nil) (fun _ _ _ _ _ => (de_lst (da_cons (de_var rfl (vis_of rfl)) da_nil))))) da_nil)) da_nil)))))))) (ds_one (ds_ret (de_cmp (fun _ _ => op_eqD' rfl (u64 hr)) (de_frz (df_lc rfl sc__law_right.nd (di_seq rfl (de_var rfl (vis_of rfl))) (own := [("value", 13)]) (blkOk_by rfl) (by decide) (fun _ _ _ _ _ => (dg_name sc__law_right.nd rfl (loc_of rfl))) (fun _ _ _ _ _ => (dts_one (dt_not (dt_val (de_callO o__law_like hr (by decide) rfl rfl rfl rfl tk_nw (argn_cons (argn_cons argn_nil)) (dak_none (da_cons (de_callO o_is_power_row hr (by decide) rfl rfl rfl rfl tk_nw (argn_cons (argn_cons argn_nil)) (dak_none (da_cons (de_var rfl (vis_of rfl)) (da_cons (de_var rfl (vis_of rfl)) da_nil)))) (da_cons (de_callO o__law_is_row hr (by decide) rfl rfl rfl rfl tk_nw (argn_cons (argn_cons argn_nil)) (dak_none (da_cons (de_var rfl (vis_of rfl)) (da_cons (de_var rfl (vis_of rfl)) da_nil)))) da_nil)))))))) (fun _ _ _ _ _ => de_int))) (de_lst da_nil) (nomark _)))))))))))))
/-! ### _law_errors_right -/
abbrev N__law_errors_right : List Str := ["words", "odd", "row"]
theorem sc__law_errors_right : FnScope N__law_errors_right [] (defScope s__law_errors_right) := ⟨rfl, rfl, rfl, by decide +kernel, rfl, by decide +kernel, by decide +kernel⟩
theorem bp__law_errors_right : BindP "_law_errors_right" s__law_errors_right [] := fun _ _ _ _ _ _ us hl => match us, hl with | [], _ => rfl
abbrev q__law_errors_right : Str := ("_law_errors_right" : Str) ++ ".<locals>." ++ "<lambda>"
def m__law_errors_right : M Fl := (sq (sPar [0, 2] (oOwn (fo (fLst aNil)) (oVal (eA tupD (aCons (eC (.int 1)) (aCons (eC (.int 1)) (aCons (eC (.int 0)) aNil)))) oNil))) (sq (sFor (bnd (eA tupD (aCons (eC .none) (aCons (eC (.int 1)) (aCons (eC (.int 4)) (aCons (eC (.int 101)) (aCons (eC (.bool true)) (aCons (eC (.str "5")) aNil))))))) itD) (gN 1) (sq (sApp 0 (eErr words (eCall none D_is_power_row (aCons (eVar 1) (aCons (eC .none) aNil))))) (sq (sApp 0 (eErr words (eCall none D_multiplied_rows (aCons (eVar 1) (aCons (eC .none) (aCons (eC .none) aNil)))))) (sq (sApp 0 (eErr words (eCall none D_put_into_row (aCons (eVar 1) (aCons (eC .none) (aCons (eC .none) aNil)))))) (sq (sApp 0 (eErr words (eCall none D_reciprocal (aCons (eVar 1) (aCons (eC .none) aNil))))) (sApp 0 (eErr words (eCall none D_turned_row (aCons (eVar 1) (aCons (eC .none) aNil)))))))))) (sq (sFor (bnd (eA tupD (aCons (eC .none) (aCons (eA tupD (aCons (eC (.int 1)) (aCons (eC (.int 1)) aNil))) (aCons (e2 mulD (eA tupD (aCons (eC (.int 0)) aNil)) (eC (.int 17))) (aCons (eA tupD (aCons (eC (.int 5)) (aCons (eC (.int 0)) (aCons (eC (.int 0)) aNil)))) (aCons (eA lstD (aCons (eC (.int 1)) (aCons (eC (.int 1)) (aCons (eC (.int 0)) aNil)))) (aCons (eA tupD (aCons (eC (.bool true)) (aCons (eC (.int 0)) (aCons (eC (.int 0)) aNil)))) (aCons (e2 mulD (eA tupD (aCons (eA tupD (aCons (eC (.int 1)) (aCons (eC (.int 1)) aNil))) aNil)) (eC (.int 3))) aNil)))))))) itD) (gN 1) (sq (sApp 0 (eErr words (eCall none D_multiplied_rows (aCons (eC (.int 5)) (aCons (eVar 1) (aCons (eC .none) aNil)))))) (sq (sApp 0 (eErr words (eCall none D_multiplied_rows (aCons (eC (.int 5)) (aCons (eVar 2) (aCons (eVar 1) aNil)))))) (sq (sApp 0 (eErr words (eCall none D_put_into_row (aCons (eC (.int 5)) (aCons (eVar 1) (aCons (eC .none) aNil)))))) (sq (sApp 0 (eErr words (eCall none D_put_into_row (aCons (eC (.int 5)) (aCons (eVar 2) (aCons (eVar 1) aNil)))))) (sq (sApp 0 (eErr words (eCall none D_reciprocal (aCons (eC (.int 5)) (aCons (eVar 1) aNil))))) (sApp 0 (eErr words (eCall none D_turned_row (aCons (eC (.int 5)) (aCons (eVar 1) aNil))))))))))) (sq (sApp 0 (eErr words (eCall none D_multiplied_rows (aCons (eC (.int 5)) (aCons (eVar 2) (aCons (eA tupD (aCons (eC (.int 1)) (aCons (eC (.int 1)) (aCons (eC (.int 0)) (aCons (eC (.int 0)) aNil))))) aNil)))))) (sq (sApp 0 (eErr words (eCall none D_put_into_row (aCons (eC (.int 5)) (aCons (eVar 2) (aCons (eA tupD (aCons (eC (.int 0)) (aCons (eC (.int 1)) (aCons (eC (.int 0)) (aCons (eC (.int 0)) aNil))))) aNil)))))) (sq (sApp 0 (eErr words (eCall none D_put_into_row (aCons (eC (.int 5)) (aCons (eVar 2) (aCons (eA tupD (aCons (eC (.int 1)) (aCons (eC (.int 1)) (aCons (eC (.int 0)) aNil)))) aNil)))))) (sRet (e2 eqD (eVar 0) (e2 addD (e2 mulD (eA lstD (aCons (eC (.str "number")) aNil)) (eC (.int 30))) (e2 mulD (eA lstD (aCons (eC (.str "row")) aNil)) (eC (.int 45))))))))))))
def D__law_errors_right : Dn := denOf N__law_errors_right.length false m__law_errors_right
theorem ok__law_errors_right (G : Gf K mg) (TB : TabB base mg (He.codeOf K ("_law_errors_right", none)) (He.tabOf K (He.codeOf K ("_law_errors_right", none)))) (hT1 : (He.tabOf K (He.codeOf K ("_law_errors_right", none)), q__law_errors_right) ∈ T) (hT2 : ∀ p ∈ T, p.1 = He.tabOf K (He.codeOf K ("_law_errors_right", none)) → p.2 = q__law_errors_right) (o_is_power_row : OkD P w K mg base 4 "is_power_row" ["ground", "value"] (spD K mg T false 2 D_is_power_row)) (o_multiplied_rows : OkD P w K mg base 5 "multiplied_rows" ["ground", "row", "second"] (spD K mg T false 3 D_multiplied_rows)) (o_put_into_row : OkD P w K mg base 5 "put_into_row" ["ground", "row", "second"] (spD K mg T false 3 D_put_into_row)) (o_reciprocal : OkD P w K mg base 5 "reciprocal" ["ground", "row"] (spD K mg T false 2 D_reciprocal)) (o_turned_row : OkD P w K mg base 5 "turned_row" ["ground", "row"] (spD K mg T false 2 D_turned_row)) : OkD P w K mg base 8 "_law_errors_right" [] (spD K mg T false 0 D__law_errors_right) :=
  okD_den (k := 7) G.d__law_errors_right sc__law_errors_right bp__law_errors_right rfl fun cdv A outer s H E c F0 hc hr => (ds_cons (ds_parN (n := 2) rfl (.cons (pg_name sc__law_errors_right.nd rfl (loc_of rfl)) (.cons (pg_name sc__law_errors_right.nd rfl (loc_of rfl)) .nil rfl) rfl) (dos_own (dfo_df (df_lst da_nil)) (dos_val (de_tup (da_cons de_int (da_cons de_int (da_cons de_int da_nil)))) dos_nil)) (by decide)) (ds_cons (ds_for dx_passes rfl (di_seq rfl (de_tup (da_cons de_non (da_cons de_int (da_cons de_int (da_cons de_int (da_cons de_bl (da_cons de_str da_nil)))))))) (dg_name sc__law_errors_right.nd rfl (loc_of rfl)) (ds_cons (ds_app rfl (vis_of rfl) (de_errO (k := 5) G.d__law_error sc__law_error bp__law_error rfl rfl (vis_of rfl) (fun cdv => err_fact G _ _ cdv) rfl rfl TB hc hT1 hT2 hr (by decide) (lamS_by rfl) rfl (fun _ _ _ _ _ => rfl) (fun A outer s H f c1 C1 hr e1 e2 e3 e4 => by
      obtain ⟨K1, mg1, T1, c1, H1, F1, P1, W1⟩ := C1
      cases e1
      cases e2
      cases e3
      cases e4
      exact (de_callO o_is_power_row hr (by decide) rfl rfl rfl rfl lamN_takes (argn_cons (argn_cons argn_nil)) (dak_none (da_cons (de_var rfl (vis_of rfl)) (da_cons de_non da_nil))))))) (ds_cons (ds_app rfl (vis_of rfl) (de_errO (k := 5) G.d__law_error sc__law_error bp__law_error rfl rfl (vis_of rfl) (fun cdv => err_fact G _ _ cdv) rfl rfl TB hc hT1 hT2 hr (by decide) (lamS_by rfl) rfl (fun _ _ _ _ _ => rfl) (fun A outer s H f c1 C1 hr e1 e2 e3 e4 => by
      obtain ⟨K1, mg1, T1, c1, H1, F1, P1, W1⟩ := C1
      cases e1
      cases e2
      cases e3
      cases e4
      exact (de_callO o_multiplied_rows hr (by decide) rfl rfl rfl rfl lamN_takes (argn_cons (argn_cons (argn_cons argn_nil))) (dak_none (da_cons (de_var rfl (vis_of rfl)) (da_cons de_non (da_cons de_non da_nil)))))))) (ds_cons (ds_app rfl (vis_of rfl) (de_errO (k := 5) G.d__law_error sc__law_error bp__law_error rfl rfl (vis_of rfl) (fun cdv => err_fact G _ _ cdv) rfl rfl TB hc hT1 hT2 hr (by decide) (lamS_by rfl) rfl (fun _ _ _ _ _ => rfl) (fun A outer s H f c1 C1 hr e1 e2 e3 e4 => by
      obtain ⟨K1, mg1, T1, c1, H1, F1, P1, W1⟩ := C1
      cases e1
      cases e2
      cases e3
      cases e4
      exact (de_callO o_put_into_row hr (by decide) rfl rfl rfl rfl lamN_takes (argn_cons (argn_cons (argn_cons argn_nil))) (dak_none (da_cons (de_var rfl (vis_of rfl)) (da_cons de_non (da_cons de_non da_nil)))))))) (ds_cons (ds_app rfl (vis_of rfl) (de_errO (k := 5) G.d__law_error sc__law_error bp__law_error rfl rfl (vis_of rfl) (fun cdv => err_fact G _ _ cdv) rfl rfl TB hc hT1 hT2 hr (by decide) (lamS_by rfl) rfl (fun _ _ _ _ _ => rfl) (fun A outer s H f c1 C1 hr e1 e2 e3 e4 => by
      obtain ⟨K1, mg1, T1, c1, H1, F1, P1, W1⟩ := C1
      cases e1
      cases e2
      cases e3
      cases e4
      exact (de_callO o_reciprocal hr (by decide) rfl rfl rfl rfl lamN_takes (argn_cons (argn_cons argn_nil)) (dak_none (da_cons (de_var rfl (vis_of rfl)) (da_cons de_non da_nil))))))) (ds_one (ds_app rfl (vis_of rfl) (de_errO (k := 5) G.d__law_error sc__law_error bp__law_error rfl rfl (vis_of rfl) (fun cdv => err_fact G _ _ cdv) rfl rfl TB hc hT1 hT2 hr (by decide) (lamS_by rfl) rfl (fun _ _ _ _ _ => rfl) (fun A outer s H f c1 C1 hr e1 e2 e3 e4 => by
      obtain ⟨K1, mg1, T1, c1, H1, F1, P1, W1⟩ := C1
      cases e1
      cases e2
      cases e3
      cases e4
      exact (de_callO o_turned_row hr (by decide) rfl rfl rfl rfl lamN_takes (argn_cons (argn_cons argn_nil)) (dak_none (da_cons (de_var rfl (vis_of rfl)) (da_cons de_non da_nil))))))))))))) (ds_cons (ds_for dx_passes rfl (di_seq rfl (de_tup (da_cons de_non (da_cons (de_tup (da_cons de_int (da_cons de_int da_nil))) (da_cons (de_bin (fun _ _ => op_mulD rfl) (de_tup (da_cons de_int da_nil)) de_int) (da_cons (de_tup (da_cons de_int (da_cons de_int (da_cons de_int da_nil)))) (da_cons (de_lst (da_cons de_int (da_cons de_int (da_cons de_int da_nil)))) (da_cons (de_tup (da_cons de_bl (da_cons de_int (da_cons de_int da_nil)))) (da_cons (de_bin (fun _ _ => op_mulD rfl) (de_tup (da_cons (de_tup (da_cons de_int (da_cons de_int da_nil))) da_nil)) de_int) da_nil))))))))) (dg_name sc__law_errors_right.nd rfl (loc_of rfl)) (ds_cons (ds_app rfl (vis_of rfl) (de_errO (k := 5) G.d__law_error sc__law_error bp__law_error rfl rfl (vis_of rfl) (fun cdv => err_fact G _ _ cdv) rfl rfl TB hc hT1 hT2 hr (by decide) (lamS_by rfl) rfl (fun _ _ _ _ _ => rfl) (fun A outer s H f c1 C1 hr e1 e2 e3 e4 => by
      obtain ⟨K1, mg1, T1, c1, H1, F1, P1, W1⟩ := C1
      cases e1
      cases e2
      cases e3
      cases e4
      exact (de_callO o_multiplied_rows hr (by decide) rfl rfl rfl rfl lamN_takes (argn_cons (argn_cons (argn_cons argn_nil))) (dak_none (da_cons de_int (da_cons (de_var rfl (vis_of rfl)) (da_cons de_non da_nil)))))))) (ds_cons (ds_app rfl (vis_of rfl) (de_errO (k := 5) G.d__law_error sc__law_error bp__law_error rfl rfl (vis_of rfl) (fun cdv => err_fact G _ _ cdv) rfl rfl TB hc hT1 hT2 hr (by decide) (lamS_by rfl) rfl (fun _ _ _ _ _ => rfl) (fun A outer s H f c1 C1 hr e1 e2 e3 e4 => by
      obtain ⟨K1, mg1, T1, c1, H1, F1, P1, W1⟩ := C1
      cases e1
      cases e2
      cases e3
      cases e4
      exact (de_callO o_multiplied_rows hr (by decide) rfl rfl rfl rfl lamN_takes (argn_cons (argn_cons (argn_cons argn_nil))) (dak_none (da_cons de_int (da_cons (de_var rfl (vis_of rfl)) (da_cons (de_var rfl (vis_of rfl)) da_nil)))))))) (ds_cons (ds_app rfl (vis_of rfl) (de_errO (k := 5) G.d__law_error sc__law_error bp__law_error rfl rfl (vis_of rfl) (fun cdv => err_fact G _ _ cdv) rfl rfl TB hc hT1 hT2 hr (by decide) (lamS_by rfl) rfl (fun _ _ _ _ _ => rfl) (fun A outer s H f c1 C1 hr e1 e2 e3 e4 => by
      obtain ⟨K1, mg1, T1, c1, H1, F1, P1, W1⟩ := C1
      cases e1
      cases e2
      cases e3
      cases e4
      exact (de_callO o_put_into_row hr (by decide) rfl rfl rfl rfl lamN_takes (argn_cons (argn_cons (argn_cons argn_nil))) (dak_none (da_cons de_int (da_cons (de_var rfl (vis_of rfl)) (da_cons de_non da_nil)))))))) (ds_cons (ds_app rfl (vis_of rfl) (de_errO (k := 5) G.d__law_error sc__law_error bp__law_error rfl rfl (vis_of rfl) (fun cdv => err_fact G _ _ cdv) rfl rfl TB hc hT1 hT2 hr (by decide) (lamS_by rfl) rfl (fun _ _ _ _ _ => rfl) (fun A outer s H f c1 C1 hr e1 e2 e3 e4 => by
      obtain ⟨K1, mg1, T1, c1, H1, F1, P1, W1⟩ := C1
      cases e1
      cases e2
      cases e3
      cases e4
      exact (de_callO o_put_into_row hr (by decide) rfl rfl rfl rfl lamN_takes (argn_cons (argn_cons (argn_cons argn_nil))) (dak_none (da_cons de_int (da_cons (de_var rfl (vis_of rfl)) (da_cons (de_var rfl (vis_of rfl)) da_nil)))))))) (ds_cons (ds_app rfl (vis_of rfl) (de_errO (k := 5) G.d__law_error sc__law_error bp__law_error rfl rfl (vis_of rfl) (fun cdv => err_fact G _ _ cdv) rfl rfl TB hc hT1 hT2 hr (by decide) (lamS_by rfl) rfl (fun _ _ _ _ _ => rfl) (fun A outer s H f c1 C1 hr e1 e2 e3 e4 => by
      obtain ⟨K1, mg1, T1, c1, H1, F1, P1, W1⟩ := C1
      cases e1
      cases e2
      cases e3
      cases e4
      exact (de_callO o_reciprocal hr (by decide) rfl rfl rfl rfl lamN_takes (argn_cons (argn_cons argn_nil)) (dak_none (da_cons de_int (da_cons (de_var rfl (vis_of rfl)) da_nil))))))) (ds_one (ds_app rfl (vis_of rfl) (de_errO (k := 5) G.d__law_error sc__law_error bp__law_error rfl rfl (vis_of rfl) (fun cdv => err_fact G _ _ cdv) rfl rfl TB hc hT1 hT2 hr (by decide) (lamS_by rfl) rfl (fun _ _ _ _ _ => rfl) (fun A outer s H f c1 C1 hr e1 e2 e3 e4 => by
      obtain ⟨K1, mg1, T1, c1, H1, F1, P1, W1⟩ := C1
      cases e1
      cases e2
      cases e3
      cases e4
      exact (de_callO o_turned_row hr (by decide) rfl rfl rfl rfl lamN_takes (argn_cons (argn_cons argn_nil)) (dak_none (da_cons de_int (da_cons (de_var rfl (vis_of rfl)) da_nil)))))))))))))) (ds_cons (ds_app rfl (vis_of rfl) (de_errO (k := 5) G.d__law_error sc__law_error bp__law_error rfl rfl (vis_of rfl) (fun cdv => err_fact G _ _ cdv) rfl rfl TB hc hT1 hT2 hr (by decide) (lamS_by rfl) rfl (fun _ _ _ _ _ => rfl) (fun A outer s H f c1 C1 hr e1 e2 e3 e4 => by
      obtain ⟨K1, mg1, T1, c1, H1, F1, P1, W1⟩ := C1
      cases e1
      cases e2
      cases e3
      cases e4
      exact (de_callO o_multiplied_rows hr (by decide) rfl rfl rfl rfl lamN_takes (argn_cons (argn_cons (argn_cons argn_nil))) (dak_none (da_cons de_int (da_cons (de_var rfl (vis_of rfl)) (da_cons (de_tup (da_cons de_int (da_cons de_int (da_cons de_int (da_cons de_int da_nil))))) da_nil)))))))) (ds_cons (ds_app rfl (vis_of rfl) (de_errO (k := 5) G.d__law_error sc__law_error bp__law_error rfl rfl (vis_of rfl) (fun cdv => err_fact G _ _ cdv) rfl rfl TB hc hT1 hT2 hr (by decide) (lamS_by rfl) rfl (fun _ _ _ _ _ => rfl) (fun A outer s H f c1 C1 hr e1 e2 e3 e4 => by
      obtain ⟨K1, mg1, T1, c1, H1, F1, P1, W1⟩ := C1
      cases e1
      cases e2
      cases e3
      cases e4
      exact (de_callO o_put_into_row hr (by decide) rfl rfl rfl rfl lamN_takes (argn_cons (argn_cons (argn_cons argn_nil))) (dak_none (da_cons de_int (da_cons (de_var rfl (vis_of rfl)) (da_cons (de_tup (da_cons de_int (da_cons de_int (da_cons de_int (da_cons de_int da_nil))))) da_nil)))))))) (ds_cons (ds_app rfl (vis_of rfl) (de_errO (k := 5) G.d__law_error sc__law_error bp__law_error rfl rfl (vis_of rfl) (fun cdv => err_fact G _ _ cdv) rfl rfl TB hc hT1 hT2 hr (by decide) (lamS_by rfl) rfl (fun _ _ _ _ _ => rfl) (fun A outer s H f c1 C1 hr e1 e2 e3 e4 => by
      obtain ⟨K1, mg1, T1, c1, H1, F1, P1, W1⟩ := C1
      cases e1
      cases e2
      cases e3
      cases e4
      exact (de_callO o_put_into_row hr (by decide) rfl rfl rfl rfl lamN_takes (argn_cons (argn_cons (argn_cons argn_nil))) (dak_none (da_cons de_int (da_cons (de_var rfl (vis_of rfl)) (da_cons (de_tup (da_cons de_int (da_cons de_int (da_cons de_int da_nil)))) da_nil)))))))) (ds_one (ds_ret (de_cmp (fun _ _ => op_eqD' rfl (u64 hr)) (de_var rfl (vis_of rfl)) (de_bin (fun _ _ => op_addD rfl) (de_bin (fun _ _ => op_mulD rfl) (de_lst (da_cons de_str da_nil)) de_int) (de_bin (fun _ _ => op_mulD rfl) (de_lst (da_cons de_str da_nil)) de_int)) (nomark _))))))))))
/-! ### law -/
abbrev N_law : List Str := ["script", "cup", "turn", "told"]
theorem sc_law : FnScope N_law ["script"] (defScope s_law) := ⟨rfl, rfl, rfl, by decide +kernel, rfl, by decide +kernel, by decide +kernel⟩
theorem bp_law : BindP "law" s_law ["script"] := fun _ _ _ _ _ _ us hl => match us, hl with | [_], _ => rfl
def m_law : M Fl := (sq (sFor (bnd (aCons (eC (.int 4)) aNil) rng1) (gN 2) (sIf (tNot (tV (eCall (some 1) D__law_right (aCons (eCall (some 1) D__law_some (aCons (eA lstD (aCons (eC (.int 0)) (aCons (eC (.int 2)) (aCons (eC (.int 3)) (aCons (eC (.int 5)) (aCons (eC (.int 7)) (aCons (eC (.int 97)) aNil))))))) aNil)) aNil)))) (sRet (eC (.bool false))) (ret .nx))) (sq (sSet 3 (eA lstD (aCons (eCall none D_reciprocal (aCons (eC (.int 5)) (aCons (eA tupD (aCons (eC (.int 1)) (aCons (eC (.int 1)) (aCons (eC (.int 0)) aNil)))) aNil))) (aCons (eCall none D_turned_row (aCons (eC (.int 7)) (aCons (eA tupD (aCons (eC (.int 0)) (aCons (eC (.int 1)) (aCons (eC (.int 1)) (aCons (eC (.int 0)) aNil))))) aNil))) (aCons (eCall none D_put_into_row (aCons (eC (.int 7)) (aCons (eA tupD (aCons (eC (.int 0)) (aCons (eC (.int 1)) (aCons (eC (.int 1)) (aCons (eC (.int 0)) aNil))))) (aCons (eA tupD (aCons (eC (.int 0)) (aCons (eC (.int 1)) (aCons (eC (.int 6)) (aCons (eC (.int 2)) aNil))))) aNil)))) aNil))))) (sq (sSet 3 (e2 addD (eVar 3) (eA lstD (aCons (eCall none D_multiplied_rows (aCons (eC (.int 5)) (aCons (eA tupD (aCons (eC (.int 1)) (aCons (eC (.int 1)) (aCons (eC (.int 0)) aNil)))) (aCons (eA tupD (aCons (eC (.int 1)) (aCons (eC (.int 4)) (aCons (eC (.int 1)) aNil)))) aNil)))) (aCons (eCall none D_turned_row (aCons (eC (.int 5)) (aCons (eA tupD (aCons (eC (.int 0)) (aCons (eC (.int 2)) (aCons (eC (.int 0)) aNil)))) aNil))) (aCons (eCall none D_put_into_row (aCons (eC (.int 7)) (aCons (eA tupD (aCons (eC (.int 1)) (aCons (eC (.int 2)) (aCons (eC (.int 0)) aNil)))) (aCons (eA tupD (aCons (eC (.int 0)) (aCons (eC (.int 1)) (aCons (eC (.int 0)) aNil)))) aNil)))) aNil)))))) (sRet (eAnd (eCall none D__law_like (aCons (eVar 3) (aCons (eA lstD (aCons (eA tupD (aCons (eC (.int 1)) (aCons (eC (.int 4)) (aCons (eC (.int 1)) aNil)))) (aCons (eA tupD (aCons (eC (.int 0)) (aCons (eC (.int 1)) (aCons (eC (.int 6)) (aCons (eC (.int 2)) aNil))))) (aCons (eA tupD (aCons (eC (.int 0)) (aCons (eC (.int 1)) (aCons (eC (.int 0)) (aCons (eC (.int 0)) aNil))))) (aCons (eA tupD (aCons (eC (.int 1)) (aCons (eC (.int 0)) (aCons (eC (.int 0)) aNil)))) (aCons (eA tupD (aCons (eC (.int 0)) (aCons (eC (.int 3)) (aCons (eC (.int 0)) aNil)))) (aCons (eA tupD (aCons (eC (.int 1)) (aCons (eC (.int 2)) (aCons (eC (.int 0)) aNil)))) aNil))))))) aNil))) (eCall0 D__law_errors_right))))))
/-- what is left to be shown in plain terms -/
def Math : Prop := ∀ k, CupOk k → ∃ s', m_law ⟨(List.replicate N_law.length Sl.un).set 1 .cup, k⟩ = .ok (.rt (.bool true)) s'
theorem ok_law (G : Gf K mg) (oc : OkD P w K mg base 1 "_law_cup" ["script"] (spCup K)) (o__law_errors_right : OkD P w K mg base 8 "_law_errors_right" [] (spD K mg T false 0 D__law_errors_right)) (o__law_like : OkD P w K mg base 9 "_law_like" ["one", "other"] (spD K mg T false 2 D__law_like)) (o__law_right : OkD P w K mg base 11 "_law_right" ["cup", "ground"] (spD K mg T true 1 D__law_right)) (o__law_some : OkD P w K mg base 2 "_law_some" ["cup", "things"] (spD K mg T true 1 D__law_some)) (o_multiplied_rows : OkD P w K mg base 5 "multiplied_rows" ["ground", "row", "second"] (spD K mg T false 3 D_multiplied_rows)) (o_put_into_row : OkD P w K mg base 5 "put_into_row" ["ground", "row", "second"] (spD K mg T false 3 D_put_into_row)) (o_reciprocal : OkD P w K mg base 5 "reciprocal" ["ground", "row"] (spD K mg T false 2 D_reciprocal)) (o_turned_row : OkD P w K mg base 5 "turned_row" ["ground", "row"] (spD K mg T false 2 D_turned_row)) (math : Math) {fd : FuncData} (F1 : FnP K "law" s_law (He.ga K "law") fd) : FnOk P w K mg base (L2N.CX P w) 12 (He.ga K "law") fd ["script"] (spLaw K T) := okF_of (k := 11) F1 sc_law law_len fun cdv A outer s H vs Q E hc hr h => by
  obtain ⟨a, ns, rfl, hS, hl, hT, hq⟩ := h
  obtain ⟨f0, fd0, ok0, hm0, hk0, hb0⟩ := oc.ok
  refine ⟨_, pss_cons (ps_set (i := 1) sc_law.nd rfl (loc_of rfl) (pe_callS ok0 (hr.mono (by decide)) rfl hm0 hk0 hb0 (fun σ => L2N.passAt dx_takes σ) (pa_cons (pe_var (i := 0) rfl (vis_of rfl)) pa_nil))) (pss_rest (T := T) (E := E) (m := m_law) fun c H0 F0 => (ds_cons (ds_for dx_passes rfl (di_range1 rfl G.b_range (da_cons de_int da_nil)) (dg_name sc_law.nd rfl (loc_of rfl)) (ds_one (ds_if (dt_not (dt_val (de_callO o__law_right hr (by decide) rfl rfl rfl rfl dx_takes (argn_cons argn_nil) (dak_cup rfl (vis_of rfl) (da_cons (de_callO o__law_some hr (by decide) rfl rfl rfl rfl dx_takes (argn_cons argn_nil) (dak_cup rfl (vis_of rfl) (da_cons (de_lst (da_cons de_int (da_cons de_int (da_cons de_int (da_cons de_int (da_cons de_int (da_cons de_int da_nil))))))) da_nil))) da_nil))))) (ds_one (ds_ret de_bl)) ds_nil))) (ds_cons (ds_set sc_law.nd rfl (loc_of rfl) (de_lst (da_cons (de_callO o_reciprocal hr (by decide) rfl rfl rfl rfl dx_takes (argn_cons (argn_cons argn_nil)) (dak_none (da_cons de_int (da_cons (de_tup (da_cons de_int (da_cons de_int (da_cons de_int da_nil)))) da_nil)))) (da_cons (de_callO o_turned_row hr (by decide) rfl rfl rfl rfl dx_takes (argn_cons (argn_cons argn_nil)) (dak_none (da_cons de_int (da_cons (de_tup (da_cons de_int (da_cons de_int (da_cons de_int (da_cons de_int da_nil))))) da_nil)))) (da_cons (de_callO o_put_into_row hr (by decide) rfl rfl rfl rfl dx_takes (argn_cons (argn_cons (argn_cons argn_nil))) (dak_none (da_cons de_int (da_cons (de_tup (da_cons de_int (da_cons de_int (da_cons de_int (da_cons de_int da_nil))))) (da_cons (de_tup (da_cons de_int (da_cons de_int (da_cons de_int (da_cons de_int da_nil))))) da_nil))))) da_nil))))) (ds_cons (ds_set sc_law.nd rfl (loc_of rfl) (de_bin (fun _ _ => op_addD rfl) (de_var rfl (vis_of rfl)) (de_lst (da_cons (de_callO o_multiplied_rows hr (by decide) rfl rfl rfl rfl dx_takes (argn_cons (argn_cons (argn_cons argn_nil))) (dak_none (da_cons de_int (da_cons (de_tup (da_cons de_int (da_cons de_int (da_cons de_int da_nil)))) (da_cons (de_tup (da_cons de_int (da_cons de_int (da_cons de_int da_nil)))) da_nil))))) (da_cons (de_callO o_turned_row hr (by decide) rfl rfl rfl rfl dx_takes (argn_cons (argn_cons argn_nil)) (dak_none (da_cons de_int (da_cons (de_tup (da_cons de_int (da_cons de_int (da_cons de_int da_nil)))) da_nil)))) (da_cons (de_callO o_put_into_row hr (by decide) rfl rfl rfl rfl dx_takes (argn_cons (argn_cons (argn_cons argn_nil))) (dak_none (da_cons de_int (da_cons (de_tup (da_cons de_int (da_cons de_int (da_cons de_int da_nil)))) (da_cons (de_tup (da_cons de_int (da_cons de_int (da_cons de_int da_nil)))) da_nil))))) da_nil)))))) (ds_one (ds_ret (de_and (de_callO o__law_like hr (by decide) rfl rfl rfl rfl dx_takes (argn_cons (argn_cons argn_nil)) (dak_none (da_cons (de_var rfl (vis_of rfl)) (da_cons (de_lst (da_cons (de_tup (da_cons de_int (da_cons de_int (da_cons de_int da_nil)))) (da_cons (de_tup (da_cons de_int (da_cons de_int (da_cons de_int (da_cons de_int da_nil))))) (da_cons (de_tup (da_cons de_int (da_cons de_int (da_cons de_int (da_cons de_int da_nil))))) (da_cons (de_tup (da_cons de_int (da_cons de_int (da_cons de_int da_nil)))) (da_cons (de_tup (da_cons de_int (da_cons de_int (da_cons de_int da_nil)))) (da_cons (de_tup (da_cons de_int (da_cons de_int (da_cons de_int da_nil)))) da_nil))))))) da_nil)))) (de_one (de_call0 o__law_errors_right hr (by decide) rfl rfl rfl dx_takes))))))))), ?_⟩
  exact ⟨.ref a, rfl, a, ns, rfl, hS, hl, fun H1 c k e1 e2 e3 e4 => law_rest (K := K) (mg := mg) (T := T) (E := E) (N := N_law) (i := 1) (m := m_law) (nx := fun _ H2 => Q .non H2) (a := a) (c := c) (by decide) hT e1 e3 e4 math hq⟩
end
end K90
set_option maxHeartbeats 2000000
namespace K90
open PySem PySem.Spec PL LL GD SR Lean.Grind
/-! ### products of rows -/
theorem e2_at {f : D → D → Option D} {ma mb : M D} {x y r : D} {s : S} (ha : ma s = .ok x s) (hb : mb s = .ok y s) (hf : f x y = some r) : e2 f ma mb s = .ok r s := e2_eq ha hb hf
theorem eCall_at {den : Dn} {q : M (List D)} {ds : List D} {d : D} {s : S} (h : q s = .ok ds s) (hd : den ds s.c = .ok d s.c) : eCall none den q s = .ok d s := eCall_eq h hd
theorem aCons_at {m : M D} {q : M (List D)} {d : D} {ds : List D} {s : S} (h : m s = .ok d s) (h2 : q s = .ok ds s) : aCons m q s = .ok (d :: ds) s := aCons_eq h h2
theorem eA_at {f : List D → Option D} {q : M (List D)} {ds : List D} {r : D} {s : S} (h : q s = .ok ds s) (hf : f ds = some r) : eA f q s = .ok r s := eA_eq h hf
theorem tV_at {ma : M D} {b : Bool} {s : S} (h : ma s = .ok (.bool b) s) : tV ma s = .ok b s := tV_eq h
theorem sSet_at {i : Nat} {m : M D} {d : D} {s s' : S} (h : m s = .ok d s) (hs : ({ s with r := s.r.set i (.val d) } : S) = s') : sSet i m s = .ok .nx s' := (sSet_eq h).trans (by rw [hs])
theorem pk_at {α : Type} {i : Nat} {q : M α} {a : α} {f : D → α → Option D} {d r : D} {s : S} (hp : peek s i = some d) (h : q s = .ok a s) (hf : f d a = some r) : pkF i q f s = .ok r s := pkF_eq hp h hp hf
theorem go_f {t : M Bool} {a : M Fl} {q : S} (h : t q = .ok false q) : sIf t a (PL.ret .nx) q = .ok .nx q := (sIf_f h).trans rfl
section
variable {α : Type} [CommRing α] [DecidableEq α] {g : Int} (G : Gr α g)
def tl (N : Nat) (f : Nat → α) : List D := (List.range N).map fun i => G.em (f i)
abbrev tr (N : Nat) (f : Nat → α) : D := .tuple (tl G N f)
theorem tl_len (N : Nat) (f : Nat → α) : (tl G N f).length = N := by simp [tl]
theorem tl_get {N i : Nat} (f : Nat → α) (h : i < N) : (tl G N f)[i]? = some (G.em (f i)) := by simp [tl, h]
theorem tl_congr {N : Nat} {f f' : Nat → α} (h : ∀ i, i < N → f i = f' i) : tl G N f = tl G N f' := by
  unfold tl
  refine List.map_congr_left fun i hi => ?_
  rw [h i (List.mem_range.mp hi)]
theorem tl_succ (N : Nat) (f : Nat → α) : tl G (N + 1) f = tl G N f ++ [G.em (f N)] := by
  unfold tl
  rw [List.range_succ, List.map_append]; rfl
theorem tl_set {N n : Nat} (f : Nat → α) (a : α) (h : n < N) : (tl G N f).set n (G.em a) = tl G N fun i => if i = n then a else f i := by
  refine List.ext_getElem? fun i => ?_
  by_cases hi : i < N
  · rw [List.getElem?_set, tl_get G _ hi, tl_get G _ hi]
    by_cases hn : n = i
    · subst hn
      rw [if_pos rfl, if_pos (by rw [tl_len]; exact hi), if_pos rfl]
    · rw [if_neg hn, if_neg (fun z => hn z.symm)]
  · rw [List.getElem?_eq_none (by rw [List.length_set, tl_len]; omega), List.getElem?_eq_none (by rw [tl_len]; omega)]
theorem ix_tr {N i : Nat} (f : Nat → α) (h : i < N) : idxD (tr G N f) (.int (i : Nat)) = some (G.em (f i)) := idx_tup (tl_get G f h)
theorem ix_tl {N i : Nat} (f : Nat → α) (h : i < N) : idxD (.list (tl G N f)) (.int (i : Nat)) = some (G.em (f i)) := idx_lst (tl_get G f h)
theorem tl_fill {N : Nat} (h : N ≤ 100) (a : α) : (List.replicate N [G.em a]).flatten = tl G N fun _ => a := by
  induction N with
  | zero => rfl
  | succ n ih =>
    rw [tl_succ, ← ih (by omega), List.replicate_succ']
    simp
theorem mul_fill {N : Nat} (h : N ≤ 100) (a : α) : mulD (.tuple [G.em a]) (.int (N : Nat)) = some (tr G N fun _ => a) := by
  have h1 : -(2 ^ 62) ≤ (N : Int) := by omega
  have h2 : (N : Int) ≤ 1000 := by omega
  have h3 : [G.em a].length ≤ 1000 := by rw [List.length_singleton]; omega
  have e : mulD (.tuple [G.em a]) (.int (N : Nat)) = some (.tuple (List.replicate (N : Int).toNat [G.em a]).flatten) := by
    unfold mulD
    dsimp only
    rw [if_pos ⟨h1, h2, h3⟩]
  rw [e, Int.toNat_natCast, tl_fill G h]
theorem rep_fill {N : Nat} (h : N ≤ 100) (a : α) : repL (.list [G.em a]) (.int (N : Nat)) = some (tl G N fun _ => a) := by
  have h1 : (N : Int) < 2 ^ 63 := by omega
  have h2 : -(2 ^ 63) ≤ (N : Int) := by omega
  have h3 : [G.em a].length * (N : Int).toNat ≤ lim := by
    rw [Int.toNat_natCast, GD.lim_eq, List.length_singleton]; omega
  have e : repL (.list [G.em a]) (.int (N : Nat)) = some (List.replicate (N : Int).toNat [G.em a]).flatten := by
    unfold repL
    dsimp only
    rw [if_pos ⟨h1, h2, h3⟩]
  rw [e, Int.toNat_natCast, tl_fill G h]
abbrev Ok (a : α) : Prop := G.Wt 300 1000 a
theorem w_sm {w m : Nat} {F : Nat → α} : ∀ n, (∀ i, i < n → G.Wt w m (F i)) → G.Wt w (m + n) (sm n F)
  | 0, _ => G.w_mono (Nat.zero_le _) (Nat.zero_le _) G.w_zero
  | n + 1, h => G.w_add (w_sm n fun i hi => h i (by omega)) (G.w_mono (Nat.le_refl _) (Nat.le_add_right m n) (h n (by omega)))
/-- what a product of two rows asks -/
structure Pd (N : Nat) (f h : Nat → α) : Prop where
  n16 : N ≤ 16
  pf : ∀ i, i < N → G.Wt 300 1000 (f i)
  ph : ∀ i, i < N → G.Wt 300 1000 (h i)
  pp : ∀ n i, n < N → i ≤ n → G.Wt 300 980 (f i * h (n - i))
theorem pd_sm {N : Nat} {f h : Nat → α} (P : Pd G N f h) {n j : Nat} (hn : n < N) (hj : j ≤ n + 1) : G.Wt 300 1000 (sm j fun i => f i * h (n - i)) := by
  have := P.n16
  exact G.w_mono (Nat.le_refl _) (by omega) (w_sm G j (w := 300) (m := 980) (F := fun i => f i * h (n - i)) fun i hi => P.pp n i hn (by omega))
theorem pd_cv {N : Nat} {f h : Nat → α} (P : Pd G N f h) : ∀ n, n < N → G.Wt 300 1000 (cv f h n) := fun n hn => by
  rw [cv_sm]
  exact pd_sm G P hn (Nat.le_refl _)
section
variable (N : Nat) (f h : Nat → α) (k : Int × Int)
abbrev st (L : List D) (a4 a5 a6 : Sl) : S := ⟨[.val (.int g), .val (tr G N f), .val (tr G N h), .own (.lst L), a4, a5, a6], k⟩
theorem t_in (P : Pd G N f h) {n : Nat} (hn : n < N) {L : List D} {a6 : Sl} : ∃ q u6, (sFor (bnd (aCons (e2 addD (eVar 4) (eC (.int 1))) aNil) rng1) (gN 6) (sSet 5 (eCall none D_sum_of (aCons (eVar 0) (aCons (eVar 5) (aCons (eCall none D_product_of (aCons (eVar 0) (aCons (pkF 1 (eVar 6) idxD) (aCons (pkF 2 (e2 subD (eVar 4) (eVar 6)) idxD) aNil)))) aNil)))))) (st G N f h k L (.val (.int (n : Nat))) (.val (G.em 0)) a6) = .ok .nx q ∧ q = st G N f h k L (.val (.int (n : Nat))) (.val (G.em (cv f h n))) u6 := by
  have src : bnd (aCons (e2 addD (eVar 4) (eC (.int 1))) aNil) rng1 (st G N f h k L (.val (.int (n : Nat))) (.val (G.em 0)) a6) = .ok (rngL 0 (n + 1)) (st G N f h k L (.val (.int (n : Nat))) (.val (G.em 0)) a6) := by
    have e : aCons (e2 addD (eVar 4) (eC (.int 1))) aNil (st G N f h k L (.val (.int (n : Nat))) (.val (G.em 0)) a6) = .ok [.int ((n + 1 : Nat) : Int)] (st G N f h k L (.val (.int (n : Nat))) (.val (G.em 0)) a6) := rfl
    exact src_eq e (rng1_nat (n := n + 1) (by have := P.n16; omega) _)
  obtain ⟨q, e, u6, rfl⟩ := forL_all (asg := gN 6) (body := (sSet 5 (eCall none D_sum_of (aCons (eVar 0) (aCons (eVar 5) (aCons (eCall none D_product_of (aCons (eVar 0) (aCons (pkF 1 (eVar 6) idxD) (aCons (pkF 2 (e2 subD (eVar 4) (eVar 6)) idxD) aNil)))) aNil)))))) (J := fun j q => ∃ u6, q = st G N f h k L (.val (.int (n : Nat))) (.val (G.em (sm j fun i => f i * h (n - i)))) u6) (rngL 0 (n + 1)) 0 (st G N f h k L (.val (.int (n : Nat))) (.val (G.em 0)) a6) ⟨_, rfl⟩ fun j x q hx hq => by
    rw [Nat.zero_add] at hq ⊢
    obtain ⟨u6, rfl⟩ := hq
    have hj : j < n + 1 := by
      have := (List.getElem?_eq_some_iff.mp hx).1
      simpa [rngL] using this
    have ex : x = .int (j : Nat) := by
      simp [rngL, hj] at hx
      exact hx.symm
    subst ex
    have e1 : pkF 1 (eVar 6) idxD (st G N f h k L (.val (.int (n : Nat))) (.val (G.em (sm j fun i => f i * h (n - i)))) (.val (.int (j : Nat)))) = .ok (G.em (f j)) (st G N f h k L (.val (.int (n : Nat))) (.val (G.em (sm j fun i => f i * h (n - i)))) (.val (.int (j : Nat)))) := pk_at (a := .int (j : Nat)) rfl rfl (ix_tr G f (by omega))
    have e2' : pkF 2 (e2 subD (eVar 4) (eVar 6)) idxD (st G N f h k L (.val (.int (n : Nat))) (.val (G.em (sm j fun i => f i * h (n - i)))) (.val (.int (j : Nat)))) = .ok (G.em (h (n - j))) (st G N f h k L (.val (.int (n : Nat))) (.val (G.em (sm j fun i => f i * h (n - i)))) (.val (.int (j : Nat)))) := by
      refine pk_at (a := .int ((n : Int) - (j : Int))) rfl rfl ?_
      have : ((n : Int) - (j : Int)) = ((n - j : Nat) : Int) := by omega
      rw [this]
      exact ix_tr G h (by omega)
    have e3 := eCall_at (den := D_product_of) (aCons_at (m := eVar 0) (d := .int g) rfl (aCons_at e1 (aCons_at e2' (rfl : aNil (st G N f h k L (.val (.int (n : Nat))) (.val (G.em (sm j fun i => f i * h (n - i)))) (.val (.int (j : Nat)))) = .ok [] _)))) (G.prod (P.pf j (by omega)) (P.ph (n - j) (by omega)) k)
    have e4 := eCall_at (den := D_sum_of) (aCons_at (m := eVar 0) (d := .int g) rfl (aCons_at (m := eVar 5) (d := G.em (sm j fun i => f i * h (n - i))) rfl (aCons_at e3 (rfl : aNil (st G N f h k L (.val (.int (n : Nat))) (.val (G.em (sm j fun i => f i * h (n - i)))) (.val (.int (j : Nat)))) = .ok [] _)))) (G.sum (pd_sm G P hn (by omega)) (G.w_mono (Nat.le_refl _) (by omega) (P.pp n j hn (by omega))) k)
    exact ⟨_, asg_eq gN_eq (sSet_at (i := 5) e4 rfl), _, rfl⟩
  rw [Nat.zero_add] at *
  have hl : (rngL 0 (n + 1)).length = n + 1 := by simp [rngL]
  rw [hl, ← cv_sm] at e
  exact ⟨_, u6, sFor_eq src e, rfl⟩
theorem times_row (P : Pd G N f h) : D_times_row [.int g, tr G N f, tr G N h] k = .ok (tr G N (cv f h)) k := by
  have a0 : (sOwn 3 (fLst aNil)) (⟨[.val (.int g), .val (tr G N f), .val (tr G N h), .un, .un, .un, .un], k⟩ : S) = .ok .nx (st G N f h k [] .un .un .un) := rfl
  have f1 : pkF 1 (PL.ret ()) (fun d _ => lenD [d]) (st G N f h k [] .un .un .un) = .ok (.int (N : Nat)) (st G N f h k [] .un .un .un) := pk_at (a := ()) rfl rfl (by rw [len_tup, tl_len])
  have src := src_eq (aCons_at f1 (rfl : aNil (st G N f h k [] .un .un .un) = .ok [] _)) (rng1_nat (n := N) (by have := P.n16; omega) _)
  obtain ⟨q, e, u4, u5, u6, rfl⟩ := forL_all (asg := gN 4) (body := (sq (sSet 5 (eCall none D_number_of (aCons (eVar 0) (aCons (eC (.int 0)) aNil)))) (sq (sFor (bnd (aCons (e2 addD (eVar 4) (eC (.int 1))) aNil) rng1) (gN 6) (sSet 5 (eCall none D_sum_of (aCons (eVar 0) (aCons (eVar 5) (aCons (eCall none D_product_of (aCons (eVar 0) (aCons (pkF 1 (eVar 6) idxD) (aCons (pkF 2 (e2 subD (eVar 4) (eVar 6)) idxD) aNil)))) aNil)))))) (sApp 3 (eVar 5))))) (J := fun j q => ∃ u4 u5 u6, q = st G N f h k (tl G j (cv f h)) u4 u5 u6) (rngL 0 N) 0 (st G N f h k [] .un .un .un) ⟨_, _, _, rfl⟩ fun j x q hx hq => by
    rw [Nat.zero_add] at hq ⊢
    obtain ⟨u4, u5, u6, rfl⟩ := hq
    have hj : j < N := by
      have := (List.getElem?_eq_some_iff.mp hx).1
      simpa [rngL] using this
    have ex : x = .int (j : Nat) := by
      simp [rngL, hj] at hx
      exact hx.symm
    subst ex
    have b1 := sSet_at (i := 5) (eCall_at (den := D_number_of) (ds := [.int g, .int 0]) (s := st G N f h k (tl G j (cv f h)) (.val (.int (j : Nat))) u5 u6) (q := aCons (eVar 0) (aCons (eC (.int 0)) aNil)) rfl (G.num0 k)) rfl
    obtain ⟨q, w6, b2, rfl⟩ := t_in G N f h k P hj (L := tl G j (cv f h)) (a6 := u6)
    have b3 : sApp 3 (eVar 5) (st G N f h k (tl G j (cv f h)) (.val (.int (j : Nat))) (.val (G.em (cv f h j))) w6) = .ok .nx (st G N f h k (tl G (j + 1) (cv f h)) (.val (.int (j : Nat))) (.val (G.em (cv f h j))) w6) := by
      rw [tl_succ]
      exact sApp_eq (d := G.em (cv f h j)) rfl rfl rfl (by rw [tl_len, GD.lim_eq]; have := P.n16; omega)
    exact ⟨_, asg_eq gN_eq (sq_nx b1 (sq_nx b2 b3)), _, _, _, rfl⟩
  have hl : (rngL 0 N).length = N := by simp [rngL]
  rw [Nat.zero_add, hl] at e
  have a1 := sFor_eq src e
  have a2 : (sRet (eA tupOfD (aCons (eVar 3) aNil))) (st G N f h k (tl G N (cv f h)) u4 u5 u6) = .ok (.rt (tr G N (cv f h))) ⟨[.val (.int g), .val (tr G N f), .val (tr G N h), .val (.list (tl G N (cv f h))), u4, u5, u6], k⟩ := rfl
  exact den_rt (k := k) (s1 := ⟨[.val (.int g), .val (tr G N f), .val (tr G N h), .val (.list (tl G N (cv f h))), u4, u5, u6], k⟩) (sq_nx a0 (sq_nx a1 a2))
end
end
end K90
set_option maxHeartbeats 2000000
namespace K90
open PySem PySem.Spec PL LL GD SR Lean.Grind
theorem rng_mem {n j : Nat} {x : D} (hx : (rngL 0 n)[j]? = some x) : j < n ∧ x = .int (j : Nat) := by
  have hj : j < n := by
    have := (List.getElem?_eq_some_iff.mp hx).1
    simpa [rngL] using this
  refine ⟨hj, ?_⟩
  simp [rngL, hj] at hx
  exact hx.symm
theorem rng_len (n : Nat) : (rngL 0 n).length = n := by simp [rngL]
theorem f2_at {f : D → D → Option (List D)} {ma mb : M D} {x y : D} {r : List D} {s : S} (ha : ma s = .ok x s) (hb : mb s = .ok y s) (hf : f x y = some r) : PL.f2 f ma mb s = .ok r s := by
  unfold PL.f2
  rw [bnd_eq ha, bnd_eq hb]
  unfold optL
  rw [hf]
section
variable {α : Type} [CommRing α] [DecidableEq α] {g : Int} (G : Gr α g)
theorem set_tl {N n : Nat} (f : Nat → α) (a : α) (h : n < N) : setI (tl G N f) (n : Int) (G.em a) = some (tl G N fun i => if i = n then a else f i) := by
  unfold setI L2.ixN
  rw [if_pos (by omega), if_pos (by rw [tl_len]; omega), Int.toNat_natCast]
  show some ((tl G N f).set n (G.em a)) = _
  rw [tl_set G f a h]
section
variable (N : Nat) (f h : Nat → α) (k : Int × Int)
def V (j l m : Nat) : α := sm (if m < j + l then min (j + 1) (m + 1) else min j (m + 1)) fun i => f i * h (m - i)
theorem V_ok (P : Pd G N f h) {j l m : Nat} (hm : m < N) : G.Wt 300 1000 (V f h j l m) := pd_sm G P hm (by split <;> omega)
theorem V_step {j l m : Nat} : V f h j (l + 1) m = if m = j + l then V f h j l m + f j * h l else V f h j l m := by
  by_cases e : m = j + l
  · rw [if_pos e]
    subst e
    unfold V
    rw [if_pos (by omega), if_neg (by omega), show min (j + 1) (j + l + 1) = j + 1 by omega, show min j (j + l + 1) = j by omega, show sm (j + 1) (fun i => f i * h (j + l - i)) = sm j (fun i => f i * h (j + l - i)) + f j * h (j + l - j) from rfl, show j + l - j = l by omega]
  · rw [if_neg e]
    unfold V
    by_cases h1 : m < j + l
    · rw [if_pos (by omega), if_pos h1]
    · rw [if_neg (by omega), if_neg h1]
theorem V_end {j m : Nat} (hm : m < N) : V f h j (N - j) m = V f h (j + 1) 0 m := by
  unfold V
  by_cases h1 : m < j + 1
  · rw [if_pos (by omega), if_pos (by omega), show min (j + 1) (m + 1) = m + 1 by omega, show min (j + 1 + 1) (m + 1) = m + 1 by omega]
  · rw [if_pos (by omega), if_neg (by omega)]
theorem lt_in (P : Pd G N f h) {j : Nat} (hj : j < N) {a6 : Sl} : ∃ q u6, (sFor (bnd (aCons (e2 subD (pkF 1 (PL.ret ()) fun d _ => lenD [d]) (eVar 4)) aNil) rng1) (gN 6) (sStI 3 (eCall none D__law_add (aCons (eVar 0) (aCons (pkF 3 (e2 addD (eVar 4) (eVar 6)) idxD) (aCons (eCall none D__law_mul (aCons (eVar 0) (aCons (eVar 5) (aCons (pkF 2 (eVar 6) idxD) aNil)))) aNil)))) (e2 addD (eVar 4) (eVar 6)))) (st G N f h k (tl G N (V f h j 0)) (.val (.int (j : Nat))) (.val (G.em (f j))) a6) = .ok .nx q ∧ q = st G N f h k (tl G N (V f h (j + 1) 0)) (.val (.int (j : Nat))) (.val (G.em (f j))) u6 := by
  have hN := P.n16
  have f1 : pkF 1 (PL.ret ()) (fun d _ => lenD [d]) (st G N f h k (tl G N (V f h j 0)) (.val (.int (j : Nat))) (.val (G.em (f j))) a6) = .ok (.int (N : Nat)) (st G N f h k (tl G N (V f h j 0)) (.val (.int (j : Nat))) (.val (G.em (f j))) a6) := pk_at (a := ()) rfl rfl (by rw [len_tup, tl_len])
  have f2 : e2 subD (pkF 1 (PL.ret ()) fun d _ => lenD [d]) (eVar 4) (st G N f h k (tl G N (V f h j 0)) (.val (.int (j : Nat))) (.val (G.em (f j))) a6) = .ok (.int ((N - j : Nat) : Int)) (st G N f h k (tl G N (V f h j 0)) (.val (.int (j : Nat))) (.val (G.em (f j))) a6) := by
    refine e2_at (y := .int (j : Nat)) f1 rfl ?_
    show some (PyData.int ((N : Int) - (j : Int))) = _
    have : (N : Int) - (j : Int) = ((N - j : Nat) : Int) := by omega
    rw [this]
  have src := src_eq (aCons_at f2 (rfl : aNil (st G N f h k (tl G N (V f h j 0)) (.val (.int (j : Nat))) (.val (G.em (f j))) a6) = .ok [] _)) (rng1_nat (n := N - j) (by omega) _)
  obtain ⟨q, e, u6, rfl⟩ := forL_all (asg := gN 6) (body := (sStI 3 (eCall none D__law_add (aCons (eVar 0) (aCons (pkF 3 (e2 addD (eVar 4) (eVar 6)) idxD) (aCons (eCall none D__law_mul (aCons (eVar 0) (aCons (eVar 5) (aCons (pkF 2 (eVar 6) idxD) aNil)))) aNil)))) (e2 addD (eVar 4) (eVar 6)))) (J := fun l q => ∃ u6, q = st G N f h k (tl G N (V f h j l)) (.val (.int (j : Nat))) (.val (G.em (f j))) u6) (rngL 0 (N - j)) 0 (st G N f h k (tl G N (V f h j 0)) (.val (.int (j : Nat))) (.val (G.em (f j))) a6) ⟨_, rfl⟩ fun l x q hx hq => by
    rw [Nat.zero_add] at hq ⊢
    obtain ⟨u6, rfl⟩ := hq
    obtain ⟨hl, rfl⟩ := rng_mem hx
    have i1 : e2 addD (eVar 4) (eVar 6) (st G N f h k (tl G N (V f h j l)) (.val (.int (j : Nat))) (.val (G.em (f j))) (.val (.int (l : Nat)))) = .ok (.int ((j + l : Nat) : Int)) (st G N f h k (tl G N (V f h j l)) (.val (.int (j : Nat))) (.val (G.em (f j))) (.val (.int (l : Nat)))) := rfl
    have e1 : pkF 3 (e2 addD (eVar 4) (eVar 6)) idxD (st G N f h k (tl G N (V f h j l)) (.val (.int (j : Nat))) (.val (G.em (f j))) (.val (.int (l : Nat)))) = .ok (G.em (V f h j l (j + l))) (st G N f h k (tl G N (V f h j l)) (.val (.int (j : Nat))) (.val (G.em (f j))) (.val (.int (l : Nat)))) := pk_at rfl i1 (ix_tl G _ (by omega))
    have e2' : pkF 2 (eVar 6) idxD (st G N f h k (tl G N (V f h j l)) (.val (.int (j : Nat))) (.val (G.em (f j))) (.val (.int (l : Nat)))) = .ok (G.em (h l)) (st G N f h k (tl G N (V f h j l)) (.val (.int (j : Nat))) (.val (G.em (f j))) (.val (.int (l : Nat)))) := pk_at (a := .int (l : Nat)) rfl rfl (ix_tr G h (by omega))
    have e3 := eCall_at (den := D__law_mul) (aCons_at (m := eVar 0) (d := .int g) rfl (aCons_at (m := eVar 5) (d := G.em (f j)) rfl (aCons_at e2' (rfl : aNil (st G N f h k (tl G N (V f h j l)) (.val (.int (j : Nat))) (.val (G.em (f j))) (.val (.int (l : Nat)))) = .ok [] _)))) (G.mul (P.pf j (by omega)) (P.ph l (by omega)) k)
    have e4 := eCall_at (den := D__law_add) (aCons_at (m := eVar 0) (d := .int g) rfl (aCons_at e1 (aCons_at e3 (rfl : aNil (st G N f h k (tl G N (V f h j l)) (.val (.int (j : Nat))) (.val (G.em (f j))) (.val (.int (l : Nat)))) = .ok [] _)))) (G.add (V_ok G N f h P (by omega)) (G.w_mono (w := 300) (w' := 300) (m := 980) (m' := 1000) (Nat.le_refl _) (by decide) (by have := P.pp (j + l) j (by omega) (by omega); rw [show j + l - j = l by omega] at this; exact this)) k)
    have e5 : (fun i => if i = j + l then V f h j l (j + l) + f j * h l else V f h j l i) = V f h j (l + 1) := funext fun m => by
      rw [V_step]
      by_cases hm : m = j + l
      · rw [if_pos hm, if_pos hm, hm]
      · rw [if_neg hm, if_neg hm]
    have e6 := sStI_eq (i := 3) e4 rfl i1 rfl (set_tl G _ _ (by omega))
    rw [e5] at e6
    exact ⟨_, asg_eq gN_eq e6, _, rfl⟩
  rw [Nat.zero_add, rng_len, tl_congr G (fun m hm => V_end N f h hm)] at e
  exact ⟨_, u6, sFor_eq src e, rfl⟩
abbrev s0 : S := ⟨[.val (.int g), .val (tr G N f), .val (tr G N h), .un, .un, .un, .un], k⟩
theorem lt_0 (hN : N ≤ 16) : (sOwn 3 (f2 repL (eA lstD (aCons (eCall none D__law_whole_of (aCons (eVar 0) (aCons (eC (.int 0)) aNil))) aNil)) (pkF 1 (PL.ret ()) fun d _ => lenD [d]))) (s0 G N f h k) = .ok .nx (st G N f h k (tl G N (V f h 0 0)) .un .un .un) := by
  have f1 : pkF 1 (PL.ret ()) (fun d _ => lenD [d]) (s0 G N f h k) = .ok (.int (N : Nat)) (s0 G N f h k) := pk_at (a := ()) rfl rfl (by rw [len_tup, tl_len])
  have f2' := eCall_at (den := D__law_whole_of) (q := aCons (eVar 0) (aCons (eC (.int 0)) aNil)) (ds := [.int g, .int 0]) (s := s0 G N f h k) rfl (G.wh0 k)
  have f3 : eA lstD (aCons (eCall none D__law_whole_of (aCons (eVar 0) (aCons (eC (.int 0)) aNil))) aNil) (s0 G N f h k) = .ok (.list [G.em 0]) (s0 G N f h k) := eA_at (f := lstD) (aCons_at f2' rfl) rfl
  have e0 : (fun _ => (0 : α)) = V f h 0 0 := funext fun m => by
    unfold V
    rw [if_neg (by omega), show min 0 (m + 1) = 0 by omega]; rfl
  have f4 := f2_at f3 f1 ((rep_fill G (N := N) (by omega) 0).trans (by rw [e0]))
  exact sOwn_eq (i := 3) f4
theorem hen : enumL (tl G N f) = (List.range N).map fun i => .tuple [.int (i : Nat), G.em (f i)] := by
  refine List.ext_getElem? fun i => ?_
  by_cases hi : i < N
  · rw [enum_get (tl_get G f hi), List.getElem?_map, List.getElem?_range hi]; rfl
  · rw [List.getElem?_eq_none (by rw [enum_len, tl_len]; omega), List.getElem?_eq_none (by simp; omega)]
theorem lt_1 (P : Pd G N f h) : ∃ q u4 u5 u6, (sFor (bnd (aCons (eVar 1) aNil) enumD) (gTn 2 (gsCons (gN 4) (gsCons (gN 5) gsNil))) (sFor (bnd (aCons (e2 subD (pkF 1 (PL.ret ()) fun d _ => lenD [d]) (eVar 4)) aNil) rng1) (gN 6) (sStI 3 (eCall none D__law_add (aCons (eVar 0) (aCons (pkF 3 (e2 addD (eVar 4) (eVar 6)) idxD) (aCons (eCall none D__law_mul (aCons (eVar 0) (aCons (eVar 5) (aCons (pkF 2 (eVar 6) idxD) aNil)))) aNil)))) (e2 addD (eVar 4) (eVar 6))))) (st G N f h k (tl G N (V f h 0 0)) .un .un .un) = .ok .nx q ∧ q = st G N f h k (tl G N (cv f h)) u4 u5 u6 := by
  obtain ⟨q, e, u4, u5, u6, rfl⟩ := forL_all (asg := gTn 2 (gsCons (gN 4) (gsCons (gN 5) gsNil))) (body := (sFor (bnd (aCons (e2 subD (pkF 1 (PL.ret ()) fun d _ => lenD [d]) (eVar 4)) aNil) rng1) (gN 6) (sStI 3 (eCall none D__law_add (aCons (eVar 0) (aCons (pkF 3 (e2 addD (eVar 4) (eVar 6)) idxD) (aCons (eCall none D__law_mul (aCons (eVar 0) (aCons (eVar 5) (aCons (pkF 2 (eVar 6) idxD) aNil)))) aNil)))) (e2 addD (eVar 4) (eVar 6))))) (J := fun j q => ∃ u4 u5 u6, q = st G N f h k (tl G N (V f h j 0)) u4 u5 u6) ((List.range N).map fun i => PyData.tuple [.int (i : Nat), G.em (f i)]) 0 (st G N f h k (tl G N (V f h 0 0)) .un .un .un) ⟨_, _, _, rfl⟩ fun j x q hx hq => by
    rw [Nat.zero_add] at hq ⊢
    obtain ⟨u4, u5, u6, rfl⟩ := hq
    have hj : j < N := by
      have := (List.getElem?_eq_some_iff.mp hx).1
      simpa using this
    have ex : x = .tuple [.int (j : Nat), G.em (f j)] := by
      simp [hj] at hx
      exact hx.symm
    subst ex
    obtain ⟨q, w6, b2, rfl⟩ := lt_in G N f h k P hj (a6 := u6)
    exact ⟨_, asg_eq (m0 := gTn 2 (gsCons (gN 4) (gsCons (gN 5) gsNil)) (.tuple [.int (j : Nat), G.em (f j)])) (s1 := st G N f h k (tl G N (V f h j 0)) (.val (.int (j : Nat))) (.val (G.em (f j))) u6) rfl b2, _, _, _, rfl⟩
  have src : bnd (aCons (eVar 1) aNil) enumD (st G N f h k (tl G N (V f h 0 0)) .un .un .un) = .ok ((List.range N).map fun i => PyData.tuple [.int (i : Nat), G.em (f i)]) (st G N f h k (tl G N (V f h 0 0)) .un .un .un) := by
    rw [← hen G N f]; rfl
  rw [Nat.zero_add, List.length_map, List.length_range] at e
  have hV : tl G N (V f h N 0) = tl G N (cv f h) := tl_congr G fun m hm => by
    rw [cv_sm]
    unfold V
    rw [if_pos (by omega), show min (N + 1) (m + 1) = m + 1 by omega]
  rw [hV] at e
  exact ⟨_, u4, u5, u6, sFor_eq src e, rfl⟩
theorem lt_2 {u4 u5 u6 : Sl} : (sRet (eA tupOfD (aCons (eVar 3) aNil))) (st G N f h k (tl G N (cv f h)) u4 u5 u6) = .ok (.rt (tr G N (cv f h))) ⟨[.val (.int g), .val (tr G N f), .val (tr G N h), .val (.list (tl G N (cv f h))), u4, u5, u6], k⟩ := rfl
theorem law_times (P : Pd G N f h) : D__law_times [.int g, tr G N f, tr G N h] k = .ok (tr G N (cv f h)) k := by
  obtain ⟨q, u4, u5, u6, a1, rfl⟩ := lt_1 G N f h k P
  exact den_rt (k := k) (sq_nx (lt_0 G N f h k P.n16) (sq_nx a1 (lt_2 G N f h k)))
end
end
end K90
set_option maxHeartbeats 2000000
namespace K90
open PySem PySem.Spec PL LL GD SR Lean.Grind
/-! ### a row put into another -/
theorem cut_1 (ds : List D) : cutD ds (some 1) none = ds.drop 1 := by
  unfold cutD
  have e1 : HT.sIx ds.length 0 (some 1) = min 1 ds.length := HT.sIx_nat ds.length 0 1
  have e2 : HT.sIx ds.length ds.length none = ds.length := rfl
  rw [e1, e2]
  cases ds with
  | nil => rfl
  | cons a l =>
    rw [show min 1 (a :: l).length = 1 by simp]
    exact List.take_of_length_le (by simp)
section
variable {α : Type} [CommRing α] [DecidableEq α] {g : Int} (G : Gr α g)
def sf (n : Nat) (u : Nat → α) : Nat → α := fun i => u (n + i)
theorem sf_0 (u : Nat → α) : sf 0 u = u := funext fun i => by unfold sf; rw [Nat.zero_add]
theorem sh_sf (n : Nat) (u : Nat → α) : sh (sf n u) = sf (n + 1) u := funext fun i => by
  show u (n + (i + 1)) = u (n + 1 + i)
  rw [show n + (i + 1) = n + 1 + i by omega]
theorem add_tup {a b : List D} (h : a.length + b.length ≤ 1000) : addD (.tuple a) (.tuple b) = some (.tuple (a ++ b)) := LL.add_tup (by rw [GD.lim_eq]; omega)
theorem tl_cons {N : Nat} (a : α) (f : Nat → α) : G.em a :: tl G N (sh f) = tl G (N + 1) fun n => if n = 0 then a else f n := by
  unfold tl
  rw [List.range_succ_eq_map, List.map_cons, List.map_map]
  rfl
theorem tl_drop (N : Nat) (f : Nat → α) : (tl G (N + 1) f).drop 1 = tl G N (sh f) := by
  unfold tl
  rw [List.range_succ_eq_map, List.map_cons, List.map_map]
  rfl
theorem tl_rev {N j : Nat} (f : Nat → α) (h : j < N) : (tl G N f).reverse[j]? = some (G.em (f (N - 1 - j))) := by
  rw [List.getElem?_reverse (by rw [tl_len]; exact h), tl_len]
  exact tl_get G f (by omega)
/-- what putting by steps asks -/
structure Pp (N : Nat) (u h : Nat → α) : Prop where
  n1 : 1 ≤ N
  pd : ∀ j, j < N → Pd G N (C j (sf (N - j) u) h) h
  pu : ∀ i, i < N → G.Wt 300 980 (u i)
section
variable (N : Nat) (u h : Nat → α) (k : Int × Int)
abbrev sp (c : Nat → α) (a4 : Sl) : S := ⟨[.val (.int g), .val (tr G N u), .val (tr G N h), .val (tr G N c), a4], k⟩
theorem p_turn {c : Nat → α} {a : α} (h1 : 1 ≤ N) (P : Pd G N c h) (ha : G.Wt 300 980 a) : (sq (sSet 3 (eCall none D_times_row (aCons (eVar 0) (aCons (eVar 3) (aCons (eVar 2) aNil))))) (sSet 3 (e2 addD (eA tupD (aCons (eCall none D_sum_of (aCons (eVar 0) (aCons (pkF 3 (eC (.int 0)) idxD) (aCons (eVar 4) aNil)))) aNil)) (pkF 3 (two (bnd (eC (.int 1)) asI) (PL.ret none)) fun d y => sliD y.1 y.2 d)))) (sp G N u h k c (.val (G.em a))) = .ok .nx (sp G N u h k (fun n => dl a n + cv h c n) (.val (G.em a))) := by
  obtain ⟨M, rfl⟩ : ∃ M, N = M + 1 := ⟨N - 1, by omega⟩
  have hN := P.n16
  have e1 : eCall none D_times_row (aCons (eVar 0) (aCons (eVar 3) (aCons (eVar 2) aNil))) (sp G (M + 1) u h k c (.val (G.em a))) = .ok (tr G (M + 1) (cv c h)) (sp G (M + 1) u h k c (.val (G.em a))) := eCall_at (ds := [.int g, tr G (M + 1) c, tr G (M + 1) h]) rfl (times_row G (M + 1) c h k P)
  have a1 := sSet_at (i := 3) (s' := sp G (M + 1) u h k (cv c h) (.val (G.em a))) e1 rfl
  have e2' : pkF 3 (eC (.int 0)) idxD (sp G (M + 1) u h k (cv c h) (.val (G.em a))) = .ok (G.em (cv c h 0)) (sp G (M + 1) u h k (cv c h) (.val (G.em a))) := pk_at (a := .int ((0 : Nat) : Int)) rfl rfl (ix_tr G _ (by omega))
  have e3 := eCall_at (den := D_sum_of) (aCons_at (m := eVar 0) (d := .int g) rfl (aCons_at e2' (aCons_at (m := eVar 4) (d := G.em a) rfl (rfl : aNil (sp G (M + 1) u h k (cv c h) (.val (G.em a))) = .ok [] _)))) (G.sum (pd_cv G P 0 (by omega)) (G.w_mono (w := 300) (w' := 300) (m := 980) (m' := 1000) (Nat.le_refl _) (by decide) ha) k)
  have e4 : eA tupD (aCons (eCall none D_sum_of (aCons (eVar 0) (aCons (pkF 3 (eC (.int 0)) idxD) (aCons (eVar 4) aNil)))) aNil) (sp G (M + 1) u h k (cv c h) (.val (G.em a))) = .ok (.tuple [G.em (cv c h 0 + a)]) (sp G (M + 1) u h k (cv c h) (.val (G.em a))) := eA_at (aCons_at e3 rfl) rfl
  have e5 : pkF 3 (two (bnd (eC (.int 1)) asI) (PL.ret none)) (fun d y => sliD y.1 y.2 d) (sp G (M + 1) u h k (cv c h) (.val (G.em a))) = .ok (tr G M (sh (cv c h))) (sp G (M + 1) u h k (cv c h) (.val (G.em a))) := by
    refine pk_at (a := (some 1, none)) rfl rfl ?_
    show some (PyData.tuple (cutD (tl G (M + 1) (cv c h)) (some 1) none)) = _
    rw [cut_1, tl_drop]
  have e6 := e2_at (f := addD) e4 e5 (add_tup (by rw [tl_len, List.length_singleton]; omega))
  have e7 : [G.em (cv c h 0 + a)] ++ tl G M (sh (cv c h)) = tl G (M + 1) fun n => dl a n + cv h c n := by
    refine (tl_cons G (cv c h 0 + a) (cv c h)).trans (tl_congr G fun n hn => ?_)
    unfold dl
    by_cases h0 : n = 0
    · subst h0
      rw [if_pos rfl, if_pos rfl, cv_comm]; grind
    · rw [if_neg h0, if_neg h0, cv_comm]; grind
  rw [e7] at e6
  exact sq_nx a1 (sSet_at e6 rfl)
theorem p_0 (hN : N ≤ 16) : (sSet 3 (e2 mulD (eA tupD (aCons (eCall none D_number_of (aCons (eVar 0) (aCons (eC (.int 0)) aNil))) aNil)) (pkF 1 (PL.ret ()) fun d _ => lenD [d]))) (⟨[.val (.int g), .val (tr G N u), .val (tr G N h), .un, .un], k⟩ : S) = .ok .nx (sp G N u h k (C 0 (sf N u) h) .un) := by
  have f1 : pkF 1 (PL.ret ()) (fun d _ => lenD [d]) (⟨[.val (.int g), .val (tr G N u), .val (tr G N h), .un, .un], k⟩ : S) = .ok (.int (N : Nat)) (⟨[.val (.int g), .val (tr G N u), .val (tr G N h), .un, .un], k⟩ : S) := pk_at (a := ()) rfl rfl (by rw [len_tup, tl_len])
  have f2' := eCall_at (den := D_number_of) (q := aCons (eVar 0) (aCons (eC (.int 0)) aNil)) (ds := [.int g, .int 0]) (s := (⟨[.val (.int g), .val (tr G N u), .val (tr G N h), .un, .un], k⟩ : S)) rfl (G.num0 k)
  have f3 : eA tupD (aCons (eCall none D_number_of (aCons (eVar 0) (aCons (eC (.int 0)) aNil))) aNil) (⟨[.val (.int g), .val (tr G N u), .val (tr G N h), .un, .un], k⟩ : S) = .ok (.tuple [G.em 0]) (⟨[.val (.int g), .val (tr G N u), .val (tr G N h), .un, .un], k⟩ : S) := eA_at (f := tupD) (aCons_at f2' rfl) rfl
  exact sSet_at (e2_at f3 f1 (mul_fill G (N := N) (by omega) 0)) rfl
theorem p_1 (P : Pp G N u h) : ∃ q u4, (sFor (bnd (eVar 1) revIt) (gN 4) (sq (sSet 3 (eCall none D_times_row (aCons (eVar 0) (aCons (eVar 3) (aCons (eVar 2) aNil))))) (sSet 3 (e2 addD (eA tupD (aCons (eCall none D_sum_of (aCons (eVar 0) (aCons (pkF 3 (eC (.int 0)) idxD) (aCons (eVar 4) aNil)))) aNil)) (pkF 3 (two (bnd (eC (.int 1)) asI) (PL.ret none)) fun d y => sliD y.1 y.2 d))))) (sp G N u h k (C 0 (sf N u) h) .un) = .ok .nx q ∧ q = sp G N u h k (C N u h) u4 := by
  have h1 := P.n1
  obtain ⟨q, e, u4, rfl⟩ := forL_all (asg := gN 4) (body := (sq (sSet 3 (eCall none D_times_row (aCons (eVar 0) (aCons (eVar 3) (aCons (eVar 2) aNil))))) (sSet 3 (e2 addD (eA tupD (aCons (eCall none D_sum_of (aCons (eVar 0) (aCons (pkF 3 (eC (.int 0)) idxD) (aCons (eVar 4) aNil)))) aNil)) (pkF 3 (two (bnd (eC (.int 1)) asI) (PL.ret none)) fun d y => sliD y.1 y.2 d))))) (J := fun j q => ∃ u4, q = sp G N u h k (C j (sf (N - j) u) h) u4) (tl G N u).reverse 0 (sp G N u h k (C 0 (sf N u) h) .un) ⟨_, rfl⟩ fun j x q hx hq => by
    rw [Nat.zero_add] at hq ⊢
    obtain ⟨u4, rfl⟩ := hq
    have hj : j < N := by
      have := (List.getElem?_eq_some_iff.mp hx).1
      rw [List.length_reverse, tl_len] at this
      exact this
    rw [tl_rev G u hj] at hx
    cases hx
    have b := p_turn G N u h k (c := C j (sf (N - j) u) h) (a := u (N - 1 - j)) h1 (P.pd j hj) (P.pu _ (by omega))
    refine ⟨_, asg_eq gN_eq b, .val (G.em (u (N - 1 - j))), ?_⟩
    have e : (fun n => dl (u (N - 1 - j)) n + cv h (C j (sf (N - j) u) h) n) = C (j + 1) (sf (N - (j + 1)) u) h := funext fun n => by
      show _ = dl (sf (N - (j + 1)) u 0) n + cv h (C j (sh (sf (N - (j + 1)) u)) h) n
      rw [sh_sf, show N - (j + 1) + 1 = N - j by omega]
      show _ = dl (u (N - (j + 1) + 0)) n + _
      rw [show N - (j + 1) + 0 = N - 1 - j by omega]
    rw [e]
  rw [Nat.zero_add, List.length_reverse, tl_len, Nat.sub_self, sf_0] at e
  exact ⟨_, u4, sFor_eq (src := bnd (eVar 1) revIt) (ds := (tl G N u).reverse) rfl e, rfl⟩
theorem put_row (P : Pp G N u h) : D_put_row [.int g, tr G N u, tr G N h] k = .ok (tr G N (C N u h)) k := by
  have hN := (P.pd 0 P.n1).n16
  obtain ⟨q, u4, a1, rfl⟩ := p_1 G N u h k P
  have a2 : (sRet (eVar 3)) (sp G N u h k (C N u h) u4) = .ok (.rt (tr G N (C N u h))) (sp G N u h k (C N u h) u4) := rfl
  exact den_rt (k := k) (sq_nx (p_0 G N u h k hN) (sq_nx a1 a2))
/-! ### by powers -/
def Pw (h : Nat → α) : Nat → Nat → α
  | 0 => dl 1
  | j + 1 => cv (Pw h j) h
def Fw (u h : Nat → α) : Nat → Nat → α
  | 0 => fun _ => 0
  | j + 1 => fun n => Fw u h j n + u j * Pw h j n
/-- what powers added up ask -/
structure Pq (N : Nat) (u h : Nat → α) : Prop where
  n1 : 1 ≤ N
  pd : ∀ j, j < N → Pd G N (Pw h j) h
  pu : ∀ i, i < N → G.Wt 300 1000 (u i)
  pp : ∀ j n, j < N → n < N → G.Wt 300 980 (u j * Pw h j n)
theorem fw_ok (P : Pq G N u h) : ∀ j n, j ≤ N → n < N → G.Wt 300 (980 + j) (Fw u h j n)
  | 0, n, _, _ => G.w_mono (Nat.zero_le _) (Nat.zero_le _) G.w_zero
  | j + 1, n, hj, hn => G.w_add (fw_ok P j n (by omega) hn) (G.w_mono (Nat.le_refl _) (Nat.le_add_right 980 j) (P.pp j n (by omega) hn))
theorem fw_end (j : Nat) : ∀ (k : Nat) (n : Nat), Fw u h (j + k) n = Fw u h j n + cv (Pw h j) (C k (sf j u) h) n
  | 0, n => by
    have : cv (Pw h j) (C 0 (sf j u) h) n = 0 := by
      show cv (Pw h j) (fun _ => 0) n = 0
      rw [cv_comm, cv_zero_l]
    rw [Nat.add_zero, this]; grind
  | k + 1, n => by
    rw [show j + (k + 1) = j + 1 + k by omega, fw_end (j + 1) k n, put_eq, sh_sf]
    show Fw u h j n + u j * Pw h j n + cv (cv (Pw h j) h) (C k (sf (j + 1) u) h) n = Fw u h j n + (u (j + 0) * Pw h j n + cv (cv (Pw h j) h) (C k (sf (j + 1) u) h) n)
    rw [Nat.add_zero]; grind
theorem fw_co (n : Nat) : Fw u h N n = C N u h n := by
  have e := fw_end u h 0 N n
  rw [Nat.zero_add, sf_0] at e
  rw [e]
  show 0 + cv (dl 1) (C N u h) n = _
  rw [cv_dl]; grind
abbrev sq_ (p f : Nat → α) (a5 a6 a7 : Sl) : S := ⟨[.val (.int g), .val (tr G N u), .val (tr G N h), .val (tr G N p), .val (tr G N f), a5, a6, a7], k⟩
theorem q_turn (P : Pq G N u h) {j : Nat} (hj : j < N) : (sq (sSet 4 (eA tupOfD (aCons (frz (eLc (bnd (aCons (eVar 4) (aCons (eVar 3) aNil)) zipD) (gTn 2 (gsCons (gN 6) (gsCons (gN 7) gsNil))) (PL.ret true) (eCall none D__law_add (aCons (eVar 0) (aCons (eVar 6) (aCons (eCall none D__law_mul (aCons (eVar 0) (aCons (eVar 5) (aCons (eVar 7) aNil)))) aNil)))) [6, 7])) aNil))) (sSet 3 (eCall none D__law_times (aCons (eVar 0) (aCons (eVar 3) (aCons (eVar 2) aNil)))))) (sq_ G N u h k (Pw h j) (Fw u h j) (.val (G.em (u j))) .un .un) = .ok .nx (sq_ G N u h k (Pw h (j + 1)) (Fw u h (j + 1)) (.val (G.em (u j))) .un .un) := by
  have hN := (P.pd 0 P.n1).n16
  have hz : ∀ n, pairs (tl G n (Fw u h j)) (tl G n (Pw h j)) = (List.range n).map fun i => PyData.tuple [G.em (Fw u h j i), G.em (Pw h j i)] := fun n => by
    have e : ∀ (l : List Nat), pairs (l.map fun i => G.em (Fw u h j i)) (l.map fun i => G.em (Pw h j i)) = l.map fun i => PyData.tuple [G.em (Fw u h j i), G.em (Pw h j i)] := fun l => by
      induction l with
      | nil => rfl
      | cons a l ih =>
        show PyData.tuple [G.em (Fw u h j a), G.em (Pw h j a)] :: pairs (l.map fun i => G.em (Fw u h j i)) (l.map fun i => G.em (Pw h j i)) = _
        rw [ih]; rfl
    exact e _
  have src : bnd (aCons (eVar 4) (aCons (eVar 3) aNil)) zipD (sq_ G N u h k (Pw h j) (Fw u h j) (.val (G.em (u j))) .un .un) = .ok ((List.range N).map fun i => PyData.tuple [G.em (Fw u h j i), G.em (Pw h j i)]) (sq_ G N u h k (Pw h j) (Fw u h j) (.val (G.em (u j))) .un .un) := by
    rw [← hz N]; rfl
  have z := eLc_of (α := Nat) (e := fun i => PyData.tuple [G.em (Fw u h j i), G.em (Pw h j i)]) (fun i => G.em (Fw u h (j + 1) i)) (asg := gTn 2 (gsCons (gN 6) (gsCons (gN 7) gsNil))) (elt := eCall none D__law_add (aCons (eVar 0) (aCons (eVar 6) (aCons (eCall none D__law_mul (aCons (eVar 0) (aCons (eVar 5) (aCons (eVar 7) aNil)))) aNil)))) (vs := [6, 7]) (r0 := (sq_ G N u h k (Pw h j) (Fw u h j) (.val (G.em (u j))) .un .un).r) (r2 := (sq_ G N u h k (Pw h j) (Fw u h j) (.val (G.em (u j))) .un .un).r) (l := List.range N) src (by rw [List.length_range, GD.lim_eq]; omega) rfl rfl fun i hi => by
    have hi := List.mem_range.mp hi
    have e1 := eCall_at (den := D__law_mul) (q := aCons (eVar 0) (aCons (eVar 5) (aCons (eVar 7) aNil))) (ds := [.int g, G.em (u j), G.em (Pw h j i)]) (s := sq_ G N u h k (Pw h j) (Fw u h j) (.val (G.em (u j))) (.val (G.em (Fw u h j i))) (.val (G.em (Pw h j i)))) rfl (G.mul (P.pu j hj) ((P.pd j hj).pf i hi) k)
    have e2' := eCall_at (den := D__law_add) (aCons_at (m := eVar 0) (d := .int g) rfl (aCons_at (m := eVar 6) (d := G.em (Fw u h j i)) rfl (aCons_at e1 (rfl : aNil (sq_ G N u h k (Pw h j) (Fw u h j) (.val (G.em (u j))) (.val (G.em (Fw u h j i))) (.val (G.em (Pw h j i)))) = .ok [] _)))) (G.add (G.w_mono (Nat.le_refl _) (show 980 + j ≤ 1000 by omega) (fw_ok G N u h P j i (by omega) hi)) (G.w_mono (w := 300) (w' := 300) (m := 980) (m' := 1000) (Nat.le_refl _) (by decide) (P.pp j i hj hi)) k)
    exact ⟨(sq_ G N u h k (Pw h j) (Fw u h j) (.val (G.em (u j))) (.val (G.em (Fw u h j i))) (.val (G.em (Pw h j i)))).r, asg_eq (m0 := gTn 2 (gsCons (gN 6) (gsCons (gN 7) gsNil)) (.tuple [G.em (Fw u h j i), G.em (Pw h j i)])) (s1 := sq_ G N u h k (Pw h j) (Fw u h j) (.val (G.em (u j))) (.val (G.em (Fw u h j i))) (.val (G.em (Pw h j i)))) rfl e2', rfl⟩
  have a1 := sSet_at (i := 4) (s' := sq_ G N u h k (Pw h j) (Fw u h (j + 1)) (.val (G.em (u j))) .un .un) (eA_at (f := tupOfD) (r := tr G N (Fw u h (j + 1))) (aCons_at (frz_eq z) (rfl : aNil (sq_ G N u h k (Pw h j) (Fw u h j) (.val (G.em (u j))) .un .un) = .ok [] _)) rfl) rfl
  have e3 : eCall none D__law_times (aCons (eVar 0) (aCons (eVar 3) (aCons (eVar 2) aNil))) (sq_ G N u h k (Pw h j) (Fw u h (j + 1)) (.val (G.em (u j))) .un .un) = .ok (tr G N (cv (Pw h j) h)) (sq_ G N u h k (Pw h j) (Fw u h (j + 1)) (.val (G.em (u j))) .un .un) := eCall_at (ds := [.int g, tr G N (Pw h j), tr G N h]) rfl (law_times G N (Pw h j) h k (P.pd j hj))
  exact sq_nx a1 (sSet_at e3 rfl)
abbrev sq0 (a3 : Sl) : S := ⟨[.val (.int g), .val (tr G N u), .val (tr G N h), a3, .un, .un, .un, .un], k⟩
theorem w0_at {a3 : Sl} : eA tupD (aCons (eCall none D__law_whole_of (aCons (eVar 0) (aCons (eC (.int 0)) aNil))) aNil) (sq0 G N u h k a3) = .ok (.tuple [G.em 0]) (sq0 G N u h k a3) := eA_at (aCons_at (eCall_at (ds := [.int g, .int 0]) rfl (G.wh0 k)) rfl) rfl
theorem w1_at {a3 : Sl} : eA tupD (aCons (eCall none D__law_whole_of (aCons (eVar 0) (aCons (eC (.int 1)) aNil))) aNil) (sq0 G N u h k a3) = .ok (.tuple [G.em 1]) (sq0 G N u h k a3) := eA_at (aCons_at (eCall_at (ds := [.int g, .int 1]) rfl (G.wh1 k)) rfl) rfl
theorem ln_at {a3 : Sl} : pkF 1 (PL.ret ()) (fun d _ => lenD [d]) (sq0 G N u h k a3) = .ok (.int (N : Nat)) (sq0 G N u h k a3) := pk_at (a := ()) rfl rfl (by rw [len_tup, tl_len])
theorem q_0 (h1 : 1 ≤ N) (hN : N ≤ 16) : (sSet 3 (e2 addD (eA tupD (aCons (eCall none D__law_whole_of (aCons (eVar 0) (aCons (eC (.int 1)) aNil))) aNil)) (e2 mulD (eA tupD (aCons (eCall none D__law_whole_of (aCons (eVar 0) (aCons (eC (.int 0)) aNil))) aNil)) (e2 subD (pkF 1 (PL.ret ()) fun d _ => lenD [d]) (eC (.int 1)))))) (sq0 G N u h k .un) = .ok .nx (sq0 G N u h k (.val (tr G N (dl 1)))) := by
  obtain ⟨M, rfl⟩ : ∃ M, N = M + 1 := ⟨N - 1, by omega⟩
  have e1 : e2 subD (pkF 1 (PL.ret ()) fun d _ => lenD [d]) (eC (.int 1)) (sq0 G (M + 1) u h k .un) = .ok (.int (M : Nat)) (sq0 G (M + 1) u h k .un) := by
    refine e2_at (y := .int 1) (ln_at G (M + 1) u h k) rfl ?_
    show some (PyData.int (((M + 1 : Nat) : Int) - 1)) = _
    have : ((M + 1 : Nat) : Int) - 1 = (M : Int) := by omega
    rw [this]
  have e2' := e2_at (w0_at G (M + 1) u h k) e1 (mul_fill G (N := M) (by omega) 0)
  have e3 := e2_at (f := addD) (w1_at G (M + 1) u h k) e2' (add_tup (by rw [tl_len, List.length_singleton]; omega))
  have e4 : [G.em 1] ++ tl G M (fun _ => 0) = tl G (M + 1) (dl 1) := (tl_cons G 1 (fun _ => 0)).trans (tl_congr G fun n _ => rfl)
  rw [e4] at e3
  exact sSet_at e3 rfl
theorem q_1 (hN : N ≤ 16) : (sSet 4 (e2 mulD (eA tupD (aCons (eCall none D__law_whole_of (aCons (eVar 0) (aCons (eC (.int 0)) aNil))) aNil)) (pkF 1 (PL.ret ()) fun d _ => lenD [d]))) (sq0 G N u h k (.val (tr G N (dl 1)))) = .ok .nx (sq_ G N u h k (Pw h 0) (Fw u h 0) .un .un .un) := sSet_at (e2_at (w0_at G N u h k) (ln_at G N u h k) (mul_fill G (N := N) (by omega) 0)) rfl
theorem q_2 (P : Pq G N u h) : ∃ q u5, (sFor (bnd (eVar 1) itD) (gN 5) (sq (sSet 4 (eA tupOfD (aCons (frz (eLc (bnd (aCons (eVar 4) (aCons (eVar 3) aNil)) zipD) (gTn 2 (gsCons (gN 6) (gsCons (gN 7) gsNil))) (PL.ret true) (eCall none D__law_add (aCons (eVar 0) (aCons (eVar 6) (aCons (eCall none D__law_mul (aCons (eVar 0) (aCons (eVar 5) (aCons (eVar 7) aNil)))) aNil)))) [6, 7])) aNil))) (sSet 3 (eCall none D__law_times (aCons (eVar 0) (aCons (eVar 3) (aCons (eVar 2) aNil))))))) (sq_ G N u h k (Pw h 0) (Fw u h 0) .un .un .un) = .ok .nx q ∧ q = sq_ G N u h k (Pw h N) (Fw u h N) u5 .un .un := by
  obtain ⟨q, e, u5, rfl⟩ := forL_all (asg := gN 5) (body := (sq (sSet 4 (eA tupOfD (aCons (frz (eLc (bnd (aCons (eVar 4) (aCons (eVar 3) aNil)) zipD) (gTn 2 (gsCons (gN 6) (gsCons (gN 7) gsNil))) (PL.ret true) (eCall none D__law_add (aCons (eVar 0) (aCons (eVar 6) (aCons (eCall none D__law_mul (aCons (eVar 0) (aCons (eVar 5) (aCons (eVar 7) aNil)))) aNil)))) [6, 7])) aNil))) (sSet 3 (eCall none D__law_times (aCons (eVar 0) (aCons (eVar 3) (aCons (eVar 2) aNil))))))) (J := fun j q => ∃ u5, q = sq_ G N u h k (Pw h j) (Fw u h j) u5 .un .un) (tl G N u) 0 (sq_ G N u h k (Pw h 0) (Fw u h 0) .un .un .un) ⟨_, rfl⟩ fun j x q hx hq => by
    rw [Nat.zero_add] at hq ⊢
    obtain ⟨u5, rfl⟩ := hq
    have hj : j < N := by
      have := (List.getElem?_eq_some_iff.mp hx).1
      rw [tl_len] at this
      exact this
    rw [tl_get G u hj] at hx
    cases hx
    exact ⟨_, asg_eq gN_eq (q_turn G N u h k P hj), _, rfl⟩
  rw [Nat.zero_add, tl_len] at e
  exact ⟨_, u5, sFor_eq (src := bnd (eVar 1) itD) (ds := tl G N u) rfl e, rfl⟩
theorem law_put (P : Pq G N u h) : D__law_put [.int g, tr G N u, tr G N h] k = .ok (tr G N (C N u h)) k := by
  have hN := (P.pd 0 P.n1).n16
  obtain ⟨q, u5, a2, rfl⟩ := q_2 G N u h k P
  have a3 : (sRet (eVar 4)) (sq_ G N u h k (Pw h N) (Fw u h N) u5 .un .un) = .ok (.rt (tr G N (Fw u h N))) (sq_ G N u h k (Pw h N) (Fw u h N) u5 .un .un) := rfl
  have e : tl G N (Fw u h N) = tl G N (C N u h) := tl_congr G fun n _ => fw_co N u h n
  have z : D__law_put [.int g, tr G N u, tr G N h] k = .ok (tr G N (Fw u h N)) k := den_rt (k := k) (sq_nx (q_0 G N u h k P.n1 hN) (sq_nx (q_1 G N u h k hN) (sq_nx a2 a3)))
  refine z.trans ?_
  show Rk.ok (PyData.tuple (tl G N (Fw u h N))) k = _
  rw [e]
end
end
end K90
set_option maxHeartbeats 2000000
namespace K90
open PySem PySem.Spec PL LL GD SR Lean.Grind
section
variable {α : Type} [CommRing α] [DecidableEq α] {g : Int} (G : Gr α g)
/-- rows drawn -/
structure Dr (N : Nat) (f : Nat → α) : Prop where
  n3 : 3 ≤ N
  n8 : N ≤ 8
  sl : ∀ i, i < N → G.Sl (f i)
abbrev s3 (a b c : D) (k : Int × Int) : S := ⟨[.val a, .val b, .val c], k⟩
section
variable {N : Nat} {f h : Nat → α} (k : Int × Int)
theorem row_tup (h3 : 3 ≤ N) (h16 : N ≤ 16) : D_is_tuple_of [tr G N f, .int 3, .int 16] k = .ok (.bool true) k := by
  rw [is_tuple]
  show Rk.ok (.bool (decide ((3 : Int) ≤ ((tl G N f).length : Int)) && decide (((tl G N f).length : Int) ≤ 16))) k = _
  rw [tl_len, decide_eq_true (by omega), decide_eq_true (by omega)]; rfl
theorem fits_row (D0 : Dr G N f) : D_fits_power_row [.int g, tr G N f] k = .ok (.bool true) k := by
  have h3 := D0.n3
  have h8 := D0.n8
  have e1 : eCall none D_is_tuple_of (aCons (eVar 1) (aCons (eC (.int 3)) (aCons (eC (.int 16)) aNil))) (⟨[.val (.int g), .val (tr G N f), .un], k⟩ : S) = .ok (.bool true) (⟨[.val (.int g), .val (tr G N f), .un], k⟩ : S) := eCall_at (ds := [tr G N f, .int 3, .int 16]) rfl (row_tup G k h3 (by omega))
  have z := eLc_of (α := Nat) (e := fun i => G.em (f i)) (fun _ => .bool true) (src := bnd (eVar 1) itD) (asg := gN 2) (elt := eCall none D_fits_ground (aCons (eVar 0) (aCons (eVar 2) aNil))) (vs := [2]) (s := (⟨[.val (.int g), .val (tr G N f), .un], k⟩ : S)) (s1 := (⟨[.val (.int g), .val (tr G N f), .un], k⟩ : S)) (r0 := [.val (.int g), .val (tr G N f), .un]) (r2 := [.val (.int g), .val (tr G N f), .un]) (l := List.range N) rfl (by rw [List.length_range, GD.lim_eq]; omega) rfl rfl fun i hi =>
    ⟨[.val (.int g), .val (tr G N f), .val (G.em (f i))], asg_eq gN_eq (eCall_at (ds := [.int g, G.em (f i)]) (s := ⟨[.val (.int g), .val (tr G N f), .val (G.em (f i))], k⟩) rfl (G.fits (D0.sl i (List.mem_range.mp hi)) k)), rfl⟩
  have e2' : ((List.range N).map fun _ => PyData.bool true) = ((List.range N).map fun _ => true).map PyData.bool := by rw [List.map_map]; rfl
  rw [e2'] at z
  have e3 := eA_at (f := allD) (aCons_at (frz_eq z) (rfl : aNil (⟨[.val (.int g), .val (tr G N f), .un], k⟩ : S) = .ok [] _)) (all_bools _)
  have e4 : ((List.range N).map fun _ => true).all id = true := by
    rw [List.all_map, List.all_eq_true]
    exact fun _ _ => rfl
  rw [e4] at e3
  exact den_rt (k := k) (s1 := (⟨[.val (.int g), .val (tr G N f), .un], k⟩ : S)) (sRet_eq ((eAnd_t e1).trans e3))
theorem need_row (D0 : Dr G N f) : D_need_power_row [.int g, tr G N f] k = .ok .none k := by
  have e1 : eCall none D_need_ground (aCons (eVar 0) aNil) (v2 (.int g) (tr G N f) k) = .ok .none (v2 (.int g) (tr G N f) k) := eCall_at (ds := [.int g]) rfl (need_ground g k G.hg)
  have e2' : eCall none D_fits_power_row (aCons (eVar 0) (aCons (eVar 1) aNil)) (v2 (.int g) (tr G N f) k) = .ok (.bool true) (v2 (.int g) (tr G N f) k) := eCall_at (ds := [.int g, tr G N f]) rfl (fits_row G k D0)
  exact den_nx (k := k) (s1 := v2 (.int g) (tr G N f) k) (sq_nx (sExp_eq e1) (go_f (tNot_eq (tV_eq e2'))))
theorem is_row (D0 : Dr G N f) : D_is_power_row [.int g, tr G N f] k = .ok (.bool true) k := by
  have e1 : eCall none D_need_ground (aCons (eVar 0) aNil) (v2 (.int g) (tr G N f) k) = .ok .none (v2 (.int g) (tr G N f) k) := eCall_at (ds := [.int g]) rfl (need_ground g k G.hg)
  have e2' : eCall none D_fits_power_row (aCons (eVar 0) (aCons (eVar 1) aNil)) (v2 (.int g) (tr G N f) k) = .ok (.bool true) (v2 (.int g) (tr G N f) k) := eCall_at (ds := [.int g, tr G N f]) rfl (fits_row G k D0)
  exact den_rt (k := k) (s1 := v2 (.int g) (tr G N f) k) (sq_nx (sExp_eq e1) (sRet_eq e2'))
theorem need_like (D0 : Dr G N f) (D1 : Dr G N h) : D_need_like [.int g, tr G N f, tr G N h] k = .ok .none k := by
  have e2' : eCall none D_fits_power_row (aCons (eVar 0) (aCons (eVar 2) aNil)) (s3 (.int g) (tr G N f) (tr G N h) k) = .ok (.bool true) (s3 (.int g) (tr G N f) (tr G N h) k) := eCall_at (ds := [.int g, tr G N h]) rfl (fits_row G k D1)
  have e3 : tV (e2 neD (pkF 2 (PL.ret ()) fun d _ => lenD [d]) (pkF 1 (PL.ret ()) fun d _ => lenD [d])) (s3 (.int g) (tr G N f) (tr G N h) k) = .ok false (s3 (.int g) (tr G N f) (tr G N h) k) := by
    refine tV_at (e2_at (x := .int (N : Nat)) (y := .int (N : Nat)) (pk_at (a := ()) rfl rfl (by rw [len_tup, tl_len])) (pk_at (a := ()) rfl rfl (by rw [len_tup, tl_len])) ?_)
    rw [ne_int]; simp
  exact den_nx (k := k) (s1 := s3 (.int g) (tr G N f) (tr G N h) k) (go_f ((tOr_f (tNot_eq (tV_eq e2'))).trans e3))
/-! ### products -/
theorem dr_w (D0 : Dr G N f) {i : Nat} (hi : i < N) : G.Wt 1 2 (f i) := G.w_sl (D0.sl i hi)
theorem dr_ok (D0 : Dr G N f) {i : Nat} (hi : i < N) : G.Wt 300 1000 (f i) := G.w_mono (by decide) (by decide) (dr_w G D0 hi)
theorem pd_dr (D0 : Dr G N f) (D1 : Dr G N h) : Pd G N f h := ⟨by have := D0.n8; omega, fun i hi => dr_ok G D0 hi, fun i hi => dr_ok G D1 hi, fun n i hn hi => G.w_mono (by decide) (by decide) (G.w_mul (dr_w G D0 (by omega)) (dr_w G D1 (by omega)))⟩
theorem multiplied (D0 : Dr G N f) (D1 : Dr G N h) : D_multiplied_rows [.int g, tr G N f, tr G N h] k = .ok (tr G N (cv f h)) k := by
  have e1 : eCall none D_need_power_row (aCons (eVar 0) (aCons (eVar 1) aNil)) (s3 (.int g) (tr G N f) (tr G N h) k) = .ok .none (s3 (.int g) (tr G N f) (tr G N h) k) := eCall_at (ds := [.int g, tr G N f]) rfl (need_row G k D0)
  have e2' : eCall none D_need_like (aCons (eVar 0) (aCons (eVar 1) (aCons (eVar 2) aNil))) (s3 (.int g) (tr G N f) (tr G N h) k) = .ok .none (s3 (.int g) (tr G N f) (tr G N h) k) := eCall_at (ds := [.int g, tr G N f, tr G N h]) rfl (need_like G k D0 D1)
  have e3 : eCall none D_times_row (aCons (eVar 0) (aCons (eVar 1) (aCons (eVar 2) aNil))) (s3 (.int g) (tr G N f) (tr G N h) k) = .ok (tr G N (cv f h)) (s3 (.int g) (tr G N f) (tr G N h) k) := eCall_at (ds := [.int g, tr G N f, tr G N h]) rfl (times_row G N f h k (pd_dr G D0 D1))
  exact den_rt (k := k) (s1 := s3 (.int g) (tr G N f) (tr G N h) k) (sq_nx (sExp_eq e1) (sq_nx (sExp_eq e2') (sRet_eq e3)))
/-! ### one put into another: bounds alike for all places -/
theorem C_u (hN : N ≤ 8) (hh : ∀ i, i < N → G.Wt 1 2 (h i)) : ∀ (j : Nat) (u : Nat → α), (∀ i, i < j → G.Wt 1 2 (u i)) → ∀ n, n < N → G.Wt (1 + j) (3 + 11 * j) (C j u h n)
  | 0, u, _, n, _ => G.w_mono (Nat.zero_le _) (Nat.zero_le _) G.w_zero
  | j + 1, u, hu, n, hn => by
    have e1 : G.Wt 1 2 (dl (u 0) n) := by
      unfold dl
      split
      · exact hu 0 (by omega)
      · exact G.w_mono (Nat.zero_le _) (Nat.zero_le _) G.w_zero
    have e2' : G.Wt (2 + j) (5 + 11 * j + (n + 1)) (cv h (C j (sh u) h) n) := by
      rw [cv_sm]
      refine w_sm G (n + 1) fun i hi => ?_
      have := G.w_mul (hh i (by omega)) (C_u hN hh j (sh u) (fun i hi => hu (i + 1) (by omega)) (n - i) (by omega))
      exact G.w_mono (by omega) (by omega) this
    exact G.w_mono (by omega) (by omega) (G.w_add (w := 2 + j) (m := 13 + 11 * j) (G.w_mono (by omega) (by omega) e1) (G.w_mono (by omega) (by omega) e2'))
theorem pp_dr (D0 : Dr G N f) (D1 : Dr G N h) : Pp G N f h := by
  have h3 := D0.n3
  have h8 := D0.n8
  have hc : ∀ j, j < N → ∀ i, i < N → G.Wt 9 91 (C j (sf (N - j) f) h i) := fun j hj i hi => G.w_mono (by omega) (by omega) (C_u G h8 (fun i hi => dr_w G D1 hi) j (sf (N - j) f) (fun l hl => dr_w G D0 (by omega)) i hi)
  exact ⟨by omega, fun j hj => ⟨by omega, fun i hi => G.w_mono (by decide) (by decide) (hc j hj i hi), fun i hi => dr_ok G D1 hi, fun n i hn hi => G.w_mono (by decide) (by decide) (G.w_mul (hc j hj i (by omega)) (dr_w G D1 (i := n - i) (by omega)))⟩, fun i hi => G.w_mono (by decide) (by decide) (dr_w G D0 hi)⟩
theorem put_into (D0 : Dr G N f) (D1 : Dr G N h) (h0 : h 0 = 0) : D_put_into_row [.int g, tr G N f, tr G N h] k = .ok (tr G N (C N f h)) k := by
  have h3 := D0.n3
  have e1 : eCall none D_need_power_row (aCons (eVar 0) (aCons (eVar 1) aNil)) (s3 (.int g) (tr G N f) (tr G N h) k) = .ok .none (s3 (.int g) (tr G N f) (tr G N h) k) := eCall_at (ds := [.int g, tr G N f]) rfl (need_row G k D0)
  have e2' : eCall none D_need_like (aCons (eVar 0) (aCons (eVar 1) (aCons (eVar 2) aNil))) (s3 (.int g) (tr G N f) (tr G N h) k) = .ok .none (s3 (.int g) (tr G N f) (tr G N h) k) := eCall_at (ds := [.int g, tr G N f, tr G N h]) rfl (need_like G k D0 D1)
  have e0 : pkF 2 (eC (.int 0)) idxD (s3 (.int g) (tr G N f) (tr G N h) k) = .ok (G.em (h 0)) (s3 (.int g) (tr G N f) (tr G N h) k) := pk_at (a := .int ((0 : Nat) : Int)) rfl rfl (ix_tr G h (by omega))
  have e3 := eCall_at (den := D_is_nothing) (aCons_at (m := eVar 0) (d := .int g) rfl (aCons_at e0 (rfl : aNil (s3 (.int g) (tr G N f) (tr G N h) k) = .ok [] _))) (G.noth (h 0) k)
  rw [decide_eq_true h0] at e3
  have e4 : eCall none D_put_row (aCons (eVar 0) (aCons (eVar 1) (aCons (eVar 2) aNil))) (s3 (.int g) (tr G N f) (tr G N h) k) = .ok (tr G N (C N f h)) (s3 (.int g) (tr G N f) (tr G N h) k) := eCall_at (ds := [.int g, tr G N f, tr G N h]) rfl (put_row G N f h k (pp_dr G D0 D1))
  exact den_rt (k := k) (s1 := s3 (.int g) (tr G N f) (tr G N h) k) (sq_nx (sExp_eq e1) (sq_nx (sExp_eq e2') (sq_nx (go_f (tNot_eq (tV_eq e3))) (sRet_eq e4))))
/-! ### by powers: bounds alike for all places -/
theorem Pw_u (hN : N ≤ 8) (hh : ∀ i, i < N → G.Wt 1 2 (h i)) : ∀ j n, n < N → G.Wt j (10 * j) (Pw h j n)
  | 0, n, _ => by
    show G.Wt 0 0 (dl 1 n)
    unfold dl
    split
    · exact G.w_one
    · exact G.w_zero
  | j + 1, n, hn => by
    show G.Wt (j + 1) (10 * (j + 1)) (cv (Pw h j) h n)
    rw [cv_sm]
    refine G.w_mono (Nat.le_refl _) (by omega) (w_sm G (w := j + 1) (m := 10 * j + 2) (n + 1) fun i hi => ?_)
    exact G.w_mul (Pw_u hN hh j i (by omega)) (hh (n - i) (by omega))
/-- a row with known bounds, put by a drawn one -/
theorem pq_u {a b : Nat} {u : Nat → α} (h1 : 1 ≤ N) (h8 : N ≤ 8) (ha : a ≤ 50) (hb : b ≤ 300) (hu : ∀ i, i < N → G.Wt a b (u i)) (hh : ∀ i, i < N → G.Wt 1 2 (h i)) : Pq G N u h := by
  have hp : ∀ j, j < N → ∀ i, i < N → G.Wt 8 80 (Pw h j i) := fun j hj i hi => G.w_mono (by omega) (by omega) (Pw_u G h8 hh j i hi)
  exact ⟨h1, fun j hj => ⟨by omega, fun i hi => G.w_mono (by decide) (by decide) (hp j hj i hi), fun i hi => G.w_mono (by decide) (by decide) (hh i hi), fun n i hn hi => G.w_mono (by decide) (by decide) (G.w_mul (hp j hj i (by omega)) (hh (n - i) (by omega)))⟩, fun i hi => G.w_mono (by omega) (by omega) (hu i hi), fun j n hj hn => G.w_mono (w := a + 8) (m := b + 80) (by omega) (by omega) (G.w_mul (hu j hj) (hp j hj n hn))⟩
end
end
end K90
set_option maxHeartbeats 2000000
namespace K90
open PySem PySem.Spec PL LL GD SR Lean.Grind
section
variable {α : Type} [CommRing α] [DecidableEq α] {g : Int} (G : Gr α g)
section
variable {N : Nat} {f h : Nat → α} (k : Int × Int)
/-! ### the reciprocal -/
theorem R_w (D0 : Dr G N f) {b : α} (hb : G.Wt 1 2 b) : ∀ j i, j < N → i ≤ j → G.Wt (2 * i + 1) (12 * i + 2) (R f b j i)
  | 0, i, _, hi => by
    have e : i = 0 := by omega
    subst e
    rw [R_0]
    exact hb
  | j + 1, i, hj, hi => by
    by_cases e : i = j + 1
    · subst e
      rw [R_e, cv_sm]
      have h8 := D0.n8
      have hs : G.Wt (2 * j + 2) (12 * j + 4 + (j + 1)) (sm (j + 1) fun i => sh f i * R f b j (j - i)) := w_sm G (j + 1) fun i hi => by
        have := G.w_mul (dr_w G D0 (i := i + 1) (by omega)) (R_w D0 hb j (j - i) (by omega) (by omega))
        exact G.w_mono (by omega) (by omega) this
      have := G.w_mul (G.w_neg hs) hb
      exact G.w_mono (by omega) (by omega) this
    · rw [R_s f b j i e]
      exact R_w D0 hb j i (by omega) (by omega)
abbrev sr (N : Nat) (f : Nat → α) (b : α) (L : List D) (a4 a5 a6 : Sl) (k : Int × Int) : S := ⟨[.val (.int g), .val (tr G N f), .val (G.em b), .own (.lst L), a4, a5, a6], k⟩
theorem rc_in (D0 : Dr G N f) {b : α} (hb : G.Wt 1 2 b) {j : Nat} (hj : j + 1 < N) {a6 : Sl} : ∃ q u6, (sFor (bnd (aCons (eC (.int 1)) (aCons (e2 addD (eVar 4) (eC (.int 1))) aNil)) rng2) (gN 6) (sSet 5 (eCall none D_sum_of (aCons (eVar 0) (aCons (eVar 5) (aCons (eCall none D_product_of (aCons (eVar 0) (aCons (pkF 1 (eVar 6) idxD) (aCons (pkF 3 (e2 subD (eVar 4) (eVar 6)) idxD) aNil)))) aNil)))))) (sr G N f b (tl G (j + 1) (R f b j)) (.val (.int ((1 + j : Nat) : Int))) (.val (G.em 0)) a6 k) = .ok .nx q ∧ q = sr G N f b (tl G (j + 1) (R f b j)) (.val (.int ((1 + j : Nat) : Int))) (.val (G.em (cv (sh f) (R f b j) j))) u6 k := by
  have h8 := D0.n8
  have hr : ∀ i, i ≤ j → G.Wt 300 980 (R f b j i) := fun i hi => G.w_mono (by omega) (by omega) (R_w G D0 hb j i (by omega) hi)
  have hp : ∀ i, i ≤ j → G.Wt 300 980 (sh f i * R f b j (j - i)) := fun i hi => G.w_mono (by omega) (by omega) (G.w_mul (dr_w G D0 (i := i + 1) (by omega)) (R_w G D0 hb j (j - i) (by omega) (by omega)))
  have src : bnd (aCons (eC (.int 1)) (aCons (e2 addD (eVar 4) (eC (.int 1))) aNil)) rng2 (sr G N f b (tl G (j + 1) (R f b j)) (.val (.int ((1 + j : Nat) : Int))) (.val (G.em 0)) a6 k) = .ok (rngL 1 (j + 1)) (sr G N f b (tl G (j + 1) (R f b j)) (.val (.int ((1 + j : Nat) : Int))) (.val (G.em 0)) a6 k) := by
    have e : aCons (eC (.int 1)) (aCons (e2 addD (eVar 4) (eC (.int 1))) aNil) (sr G N f b (tl G (j + 1) (R f b j)) (.val (.int ((1 + j : Nat) : Int))) (.val (G.em 0)) a6 k) = .ok [.int 1, .int (((1 + j : Nat) : Int) + 1)] (sr G N f b (tl G (j + 1) (R f b j)) (.val (.int ((1 + j : Nat) : Int))) (.val (G.em 0)) a6 k) := rfl
    refine src_eq e ?_
    rw [rng2_int (by omega) (by omega) (by omega) (by omega)]
    have : ((((1 + j : Nat) : Int) + 1) - 1).toNat = j + 1 := by omega
    rw [this]
  obtain ⟨q, e, u6, rfl⟩ := forL_all (asg := gN 6) (body := (sSet 5 (eCall none D_sum_of (aCons (eVar 0) (aCons (eVar 5) (aCons (eCall none D_product_of (aCons (eVar 0) (aCons (pkF 1 (eVar 6) idxD) (aCons (pkF 3 (e2 subD (eVar 4) (eVar 6)) idxD) aNil)))) aNil)))))) (J := fun l q => ∃ u6, q = sr G N f b (tl G (j + 1) (R f b j)) (.val (.int ((1 + j : Nat) : Int))) (.val (G.em (sm l fun i => sh f i * R f b j (j - i)))) u6 k) (rngL 1 (j + 1)) 0 (sr G N f b (tl G (j + 1) (R f b j)) (.val (.int ((1 + j : Nat) : Int))) (.val (G.em 0)) a6 k) ⟨_, rfl⟩ fun l x q hx hq => by
    rw [Nat.zero_add] at hq ⊢
    obtain ⟨u6, rfl⟩ := hq
    have hl : l < j + 1 := by
      have := (List.getElem?_eq_some_iff.mp hx).1
      simpa [rngL] using this
    have ex : x = .int ((l + 1 : Nat) : Int) := by
      simp [rngL, hl] at hx
      rw [← hx]
      exact congrArg PyData.int (by omega)
    subst ex
    have e1 : pkF 1 (eVar 6) idxD (sr G N f b (tl G (j + 1) (R f b j)) (.val (.int ((1 + j : Nat) : Int))) (.val (G.em (sm l fun i => sh f i * R f b j (j - i)))) (.val (.int ((l + 1 : Nat) : Int))) k) = .ok (G.em (f (l + 1))) (sr G N f b (tl G (j + 1) (R f b j)) (.val (.int ((1 + j : Nat) : Int))) (.val (G.em (sm l fun i => sh f i * R f b j (j - i)))) (.val (.int ((l + 1 : Nat) : Int))) k) := pk_at (a := .int ((l + 1 : Nat) : Int)) rfl rfl (ix_tr G f (by omega))
    have e2' : pkF 3 (e2 subD (eVar 4) (eVar 6)) idxD (sr G N f b (tl G (j + 1) (R f b j)) (.val (.int ((1 + j : Nat) : Int))) (.val (G.em (sm l fun i => sh f i * R f b j (j - i)))) (.val (.int ((l + 1 : Nat) : Int))) k) = .ok (G.em (R f b j (j - l))) (sr G N f b (tl G (j + 1) (R f b j)) (.val (.int ((1 + j : Nat) : Int))) (.val (G.em (sm l fun i => sh f i * R f b j (j - i)))) (.val (.int ((l + 1 : Nat) : Int))) k) := by
      refine pk_at (a := .int (((1 + j : Nat) : Int) - ((l + 1 : Nat) : Int))) rfl rfl ?_
      have : (((1 + j : Nat) : Int) - ((l + 1 : Nat) : Int)) = ((j - l : Nat) : Int) := by omega
      rw [this]
      exact ix_tl G _ (by omega)
    have e3 := eCall_at (den := D_product_of) (aCons_at (m := eVar 0) (d := .int g) rfl (aCons_at e1 (aCons_at e2' (rfl : aNil (sr G N f b (tl G (j + 1) (R f b j)) (.val (.int ((1 + j : Nat) : Int))) (.val (G.em (sm l fun i => sh f i * R f b j (j - i)))) (.val (.int ((l + 1 : Nat) : Int))) k) = .ok [] _)))) (G.prod (dr_ok G D0 (i := l + 1) (by omega)) (G.w_mono (Nat.le_refl _) (show 980 ≤ 1000 by decide) (hr (j - l) (by omega))) k)
    have hs : G.Wt 300 1000 (sm l fun i => sh f i * R f b j (j - i)) := G.w_mono (Nat.le_refl _) (by omega) (w_sm G (w := 300) (m := 980) l fun i hi => hp i (by omega))
    have e4 := eCall_at (den := D_sum_of) (aCons_at (m := eVar 0) (d := .int g) rfl (aCons_at (m := eVar 5) (d := G.em (sm l fun i => sh f i * R f b j (j - i))) rfl (aCons_at e3 (rfl : aNil (sr G N f b (tl G (j + 1) (R f b j)) (.val (.int ((1 + j : Nat) : Int))) (.val (G.em (sm l fun i => sh f i * R f b j (j - i)))) (.val (.int ((l + 1 : Nat) : Int))) k) = .ok [] _)))) (G.sum hs (G.w_mono (Nat.le_refl _) (show 980 ≤ 1000 by decide) (hp l (by omega))) k)
    exact ⟨_, asg_eq gN_eq (sSet_at (i := 5) e4 rfl), _, rfl⟩
  have hl : (rngL 1 (j + 1)).length = j + 1 := by simp [rngL]
  rw [Nat.zero_add, hl, ← cv_sm] at e
  exact ⟨_, u6, sFor_eq src e, rfl⟩
theorem rc_need (D0 : Dr G N f) {r : List Sl} {a2 : Sl} (hr : r = .val (.int g) :: .val (tr G N f) :: a2 :: r.drop 3) : eCall none D_need_power_row (aCons (eVar 0) (aCons (eVar 1) aNil)) ⟨r, k⟩ = .ok .none ⟨r, k⟩ := by
  rw [hr]
  exact eCall_at (ds := [.int g, tr G N f]) rfl (need_row G k D0)
abbrev sr0 (N : Nat) (f : Nat → α) (a2 : Sl) (k : Int × Int) : S := ⟨[.val (.int g), .val (tr G N f), a2, .un, .un, .un, .un], k⟩
theorem rc_0 (D0 : Dr G N f) : (sExp (eCall none D_need_power_row (aCons (eVar 0) (aCons (eVar 1) aNil)))) (sr0 G N f .un k) = .ok .nx (sr0 G N f .un k) := sExp_eq (eCall_at (ds := [.int g, tr G N f]) rfl (need_row G k D0))
theorem rc_at (D0 : Dr G N f) : pkF 1 (eC (.int 0)) idxD (sr0 G N f .un k) = .ok (G.em (f 0)) (sr0 G N f .un k) := pk_at (a := .int ((0 : Nat) : Int)) rfl rfl (ix_tr G f (by have := D0.n3; omega))
theorem rc_t (D0 : Dr G N f) : tV (eCall none D_is_nothing (aCons (eVar 0) (aCons (pkF 1 (eC (.int 0)) idxD) aNil))) (sr0 G N f .un k) = .ok (decide (f 0 = 0)) (sr0 G N f .un k) := tV_at (eCall_at (aCons_at (d := .int g) rfl (aCons_at (rc_at G k D0) rfl)) (G.noth (f 0) k))
theorem recip_no (D0 : Dr G N f) (h0 : f 0 = 0) : D_reciprocal [.int g, tr G N f] k = .exc "NotFound" k := by
  have t := rc_t G k D0
  rw [decide_eq_true h0] at t
  exact den_exc (k := k) (s1 := sr0 G N f .un k) ((sq_go (rc_0 G k D0)).trans (sq_exc ((sIf_t t).trans rfl)))
theorem recip (D0 : Dr G N f) (h0 : f 0 ≠ 0) : ∃ b, f 0 * b = 1 ∧ G.Wt 1 2 b ∧ D_reciprocal [.int g, tr G N f] k = .ok (tr G N (R f b (N - 1))) k := by
  have h3 := D0.n3
  have h8 := D0.n8
  obtain ⟨b, eb, fb, hb⟩ := G.back (D0.sl 0 (by omega)) h0
  refine ⟨b, fb, hb, ?_⟩
  have t := rc_t G k D0
  rw [decide_eq_false h0] at t
  have a2 : (sSet 2 (eCall none D_back_of (aCons (eVar 0) (aCons (pkF 1 (eC (.int 0)) idxD) aNil)))) (sr0 G N f .un k) = .ok .nx (sr0 G N f (.val (G.em b)) k) := sSet_at (eCall_at (aCons_at (d := .int g) rfl (aCons_at (rc_at G k D0) rfl)) (eb k)) rfl
  have a3 : (sOwn 3 (fLst (aCons (eVar 2) aNil))) (sr0 G N f (.val (G.em b)) k) = .ok .nx (sr G N f b (tl G 1 (R f b 0)) .un .un .un k) := rfl
  have f1 : pkF 1 (PL.ret ()) (fun d _ => lenD [d]) (sr G N f b (tl G 1 (R f b 0)) .un .un .un k) = .ok (.int (N : Nat)) (sr G N f b (tl G 1 (R f b 0)) .un .un .un k) := pk_at (a := ()) rfl rfl (by rw [len_tup, tl_len])
  have src : bnd (aCons (eC (.int 1)) (aCons (pkF 1 (PL.ret ()) fun d _ => lenD [d]) aNil)) rng2 (sr G N f b (tl G 1 (R f b 0)) .un .un .un k) = .ok (rngL 1 (N - 1)) (sr G N f b (tl G 1 (R f b 0)) .un .un .un k) := by
    refine src_eq (aCons_at (d := .int 1) rfl (aCons_at f1 rfl)) ?_
    rw [rng2_int (by omega) (by omega) (by omega) (by omega)]
    have : ((N : Int) - 1).toNat = N - 1 := by omega
    rw [this]
  obtain ⟨q, e, u4, u5, u6, rfl⟩ := forL_all (asg := gN 4) (body := (sq (sSet 5 (eCall none D_number_of (aCons (eVar 0) (aCons (eC (.int 0)) aNil)))) (sq (sFor (bnd (aCons (eC (.int 1)) (aCons (e2 addD (eVar 4) (eC (.int 1))) aNil)) rng2) (gN 6) (sSet 5 (eCall none D_sum_of (aCons (eVar 0) (aCons (eVar 5) (aCons (eCall none D_product_of (aCons (eVar 0) (aCons (pkF 1 (eVar 6) idxD) (aCons (pkF 3 (e2 subD (eVar 4) (eVar 6)) idxD) aNil)))) aNil)))))) (sApp 3 (eCall none D_product_of (aCons (eVar 0) (aCons (eCall none D_negative_of (aCons (eVar 0) (aCons (eVar 5) aNil))) (aCons (eVar 2) aNil)))))))) (J := fun j q => ∃ u4 u5 u6, q = sr G N f b (tl G (j + 1) (R f b j)) u4 u5 u6 k) (rngL 1 (N - 1)) 0 (sr G N f b (tl G 1 (R f b 0)) .un .un .un k) ⟨_, _, _, rfl⟩ fun j x q hx hq => by
    rw [Nat.zero_add] at hq ⊢
    obtain ⟨u4, u5, u6, rfl⟩ := hq
    have hj : j < N - 1 := by
      have := (List.getElem?_eq_some_iff.mp hx).1
      simpa [rngL] using this
    have ex : x = .int ((1 + j : Nat) : Int) := by
      simp [rngL, hj] at hx
      rw [← hx]
      exact congrArg PyData.int (by omega)
    subst ex
    have b1 := sSet_at (i := 5) (s' := sr G N f b (tl G (j + 1) (R f b j)) (.val (.int ((1 + j : Nat) : Int))) (.val (G.em 0)) u6 k) (eCall_at (den := D_number_of) (ds := [.int g, .int 0]) (s := sr G N f b (tl G (j + 1) (R f b j)) (.val (.int ((1 + j : Nat) : Int))) u5 u6 k) (q := aCons (eVar 0) (aCons (eC (.int 0)) aNil)) rfl (G.num0 k)) rfl
    obtain ⟨q, w6, b2, rfl⟩ := rc_in G k D0 hb (j := j) (by omega) (a6 := u6)
    have hw := R_w G D0 hb (j + 1) (j + 1) (by omega) (Nat.le_refl _)
    have hc : G.Wt 300 1000 (cv (sh f) (R f b j) j) := by
      rw [cv_sm]
      refine G.w_mono (Nat.le_refl _) (show 980 + (j + 1) ≤ 1000 by omega) (w_sm G (w := 300) (m := 980) (j + 1) fun i hi => ?_)
      exact G.w_mono (by omega) (by omega) (G.w_mul (dr_w G D0 (i := i + 1) (by omega)) (R_w G D0 hb j (j - i) (by omega) (by omega)))
    have e5 := eCall_at (den := D_negative_of) (q := aCons (eVar 0) (aCons (eVar 5) aNil)) (ds := [.int g, G.em (cv (sh f) (R f b j) j)]) (s := sr G N f b (tl G (j + 1) (R f b j)) (.val (.int ((1 + j : Nat) : Int))) (.val (G.em (cv (sh f) (R f b j) j))) w6 k) rfl (G.neg _ k)
    have e6 := eCall_at (den := D_product_of) (aCons_at (m := eVar 0) (d := .int g) rfl (aCons_at e5 (aCons_at (m := eVar 2) (d := G.em b) rfl (rfl : aNil (sr G N f b (tl G (j + 1) (R f b j)) (.val (.int ((1 + j : Nat) : Int))) (.val (G.em (cv (sh f) (R f b j) j))) w6 k) = .ok [] _)))) (G.prod (G.w_neg hc) (G.w_mono (by decide) (by decide) hb) k)
    have b3 := sApp_eq (i := 3) (ds0 := tl G (j + 1) (R f b j)) (ds := tl G (j + 1) (R f b j)) rfl e6 rfl (by rw [tl_len, GD.lim_eq]; omega)
    have e7 : tl G (j + 1) (R f b j) ++ [G.em (-cv (sh f) (R f b j) j * b)] = tl G (j + 1 + 1) (R f b (j + 1)) := by
      rw [tl_succ G (j + 1) (R f b (j + 1)), R_e, tl_congr G (f := R f b (j + 1)) (f' := R f b j) (fun i hi => R_s f b j i (by omega))]
    rw [e7] at b3
    exact ⟨_, asg_eq gN_eq (sq_nx b1 (sq_nx b2 b3)), _, _, _, rfl⟩
  have hl : (rngL 1 (N - 1)).length = N - 1 := by simp [rngL]
  rw [Nat.zero_add, hl, show N - 1 + 1 = N by omega] at e
  have a4 := sFor_eq src e
  have a5 : (sRet (eA tupOfD (aCons (eVar 3) aNil))) (sr G N f b (tl G N (R f b (N - 1))) u4 u5 u6 k) = .ok (.rt (tr G N (R f b (N - 1)))) ⟨[.val (.int g), .val (tr G N f), .val (G.em b), .val (.list (tl G N (R f b (N - 1)))), u4, u5, u6], k⟩ := rfl
  exact den_rt (k := k) (sq_nx (rc_0 G k D0) (sq_nx (go_f t) (sq_nx a2 (sq_nx a3 (sq_nx a4 a5)))))
theorem R_pd (D0 : Dr G N f) {b : α} (hb : G.Wt 1 2 b) : Pd G N f (R f b (N - 1)) := by
  have h3 := D0.n3
  have h8 := D0.n8
  have hr : ∀ i, i < N → G.Wt 20 100 (R f b (N - 1) i) := fun i hi => G.w_mono (by omega) (by omega) (R_w G D0 hb (N - 1) i (by omega) (by omega))
  exact ⟨by omega, fun i hi => dr_ok G D0 hi, fun i hi => G.w_mono (by decide) (by decide) (hr i hi), fun n i hn hi => G.w_mono (by decide) (by decide) (G.w_mul (dr_w G D0 (by omega)) (hr (n - i) (by omega)))⟩
theorem R_one (D0 : Dr G N f) {b : α} (fb : f 0 * b = 1) : tl G N (cv f (R f b (N - 1))) = tl G N (dl 1) := tl_congr G fun i hi => R_ok fb (N - 1) i (by omega)
end
end
end K90
set_option maxHeartbeats 2000000
namespace K90
open PySem PySem.Spec PL LL GD SR Lean.Grind
section
variable {α : Type} [CommRing α] [DecidableEq α] {g : Int} (G : Gr α g)
/-- the bounds of a row that turns -/
structure Zb (N : Nat) (h : Nat → α) : Prop where
  z : h 0 = 0
  w : ∀ i, 1 ≤ i → i < N → G.Wt (3 * i - 2) (24 * i - 22) (h i)
section
variable {N : Nat} {f h : Nat → α} (k : Int × Int)
theorem zb_w (Z : Zb G N h) {i : Nat} (hi : i < N) : G.Wt (3 * i) (24 * i) (h i) := by
  by_cases e : i = 0
  · subst e
    rw [Z.z]
    exact G.w_mono (Nat.zero_le _) (Nat.zero_le _) G.w_zero
  · exact G.w_mono (by omega) (by omega) (Z.w i (by omega) hi)
theorem mul_z (a : α) : (0 : α) * a = 0 := by grind
theorem z_mul (a : α) : a * (0 : α) = 0 := by grind
/-- a product with such a row, place by place -/
theorem zb_p (Z : Zb G N h) {X : Nat → α} {n i : Nat} (hn : n < N) (hX : ∀ i, i < n → G.Wt (3 * i + 1) (24 * i + 4) (X i)) (hi : i ≤ n) : G.Wt (3 * n - 1) (24 * n - 18) (h i * X (n - i)) := by
  by_cases e : i = 0
  · subst e
    rw [Z.z, mul_z]
    exact G.w_mono (Nat.zero_le _) (Nat.zero_le _) G.w_zero
  · exact G.w_mono (by omega) (by omega) (G.w_mul (Z.w i (by omega) (by omega)) (hX (n - i) (by omega)))
theorem zb_cv (h8 : N ≤ 8) (Z : Zb G N h) {X : Nat → α} {n : Nat} (h1 : 1 ≤ n) (hn : n < N) (hX : ∀ i, i < n → G.Wt (3 * i + 1) (24 * i + 4) (X i)) : G.Wt (3 * n - 1) (24 * n - 10) (cv h X n) := by
  rw [cv_sm]
  exact G.w_mono (Nat.le_refl _) (by omega) (w_sm G (n + 1) fun i hi => zb_p G Z hn hX (by omega))
theorem C_z (h8 : N ≤ 8) (Z : Zb G N h) : ∀ (j : Nat) (u : Nat → α) (n : Nat), n < N → (∀ i, i < j → i ≤ n → G.Wt 1 2 (u i)) → G.Wt (3 * n + 1) (24 * n + 4) (C j u h n)
  | 0, u, n, _, _ => G.w_mono (Nat.zero_le _) (Nat.zero_le _) G.w_zero
  | j + 1, u, n, hn, hu => by
    show G.Wt (3 * n + 1) (24 * n + 4) (dl (u 0) n + cv h (C j (sh u) h) n)
    by_cases e : n = 0
    · subst e
      have e1 : dl (u 0) 0 + cv h (C j (sh u) h) 0 = u 0 + 0 := by
        rw [cv0, Z.z, mul_z]; rfl
      rw [e1]
      exact G.w_mono (by decide) (by decide) (G.w_add (hu 0 (by omega) (Nat.le_refl _)) (G.w_mono (Nat.zero_le _) (Nat.zero_le _) G.w_zero))
    · have e1 : dl (u 0) n = 0 := if_neg e
      rw [e1]
      have hc := zb_cv G h8 Z (X := C j (sh u) h) (n := n) (by omega) hn fun i hi => C_z h8 Z j (sh u) i (by omega) fun l hl hl2 => hu (l + 1) (by omega) (by omega)
      exact G.w_mono (by omega) (by omega) (G.w_add (w := 3 * n - 1) (m := 24 * n - 10) (G.w_mono (Nat.zero_le _) (Nat.zero_le _) G.w_zero) hc)
/-- what is off at a place that is nothing yet -/
theorem off_w (D0 : Dr G N f) (f0 : f 0 = 0) (Z : Zb G N h) {n : Nat} (h2 : 2 ≤ n) (hn : n < N) (hz : h n = 0) : G.Wt (3 * n - 3) (24 * n - 24) (co f h n) := by
  have h8 := D0.n8
  have hY : ∀ i, i + 2 < N → G.Wt (3 * i + 1) (24 * i + 4) (co (sh (sh f)) h i) := fun i hi => C_z G h8 Z (i + 1) (sh (sh f)) i (by omega) fun l hl _ => dr_w G D0 (i := l + 1 + 1) (by omega)
  have hX : ∀ m, 1 ≤ m → m + 1 < N → G.Wt (3 * m - 1) (24 * m - 10) (cv h (co (sh (sh f)) h) m) := fun m h1 hm => zb_cv G h8 Z h1 (by omega) fun i hi => hY i (by omega)
  have hX0 : cv h (co (sh (sh f)) h) 0 = 0 := by rw [cv0, Z.z, mul_z]
  rw [co_split f0 Z.z, hz, mul_z]
  have e : ∀ x : α, 0 + x = x := fun x => by grind
  rw [e, cv_sm]
  refine G.w_mono (Nat.le_refl _) (by omega) (w_sm G (w := 3 * n - 3) (m := 24 * n - 32) (n + 1) fun i hi => ?_)
  by_cases e1 : i = 0
  · subst e1
    rw [Z.z, mul_z]
    exact G.w_mono (Nat.zero_le _) (Nat.zero_le _) G.w_zero
  · by_cases e2 : i = n
    · subst e2
      rw [Nat.sub_self, hX0, z_mul]
      exact G.w_mono (Nat.zero_le _) (Nat.zero_le _) G.w_zero
    · exact G.w_mono (by omega) (by omega) (G.w_mul (Z.w i (by omega) (by omega)) (hX (n - i) (by omega) (by omega)))
theorem T_z (D0 : Dr G N f) (f0 : f 0 = 0) {b : α} (hb : G.Wt 1 2 b) : ∀ j, j + 2 ≤ N → Zb G N (T f b j)
  | 0, _ => ⟨T_0 f b 0, fun i h1 hi => by
      by_cases e : i = 1
      · subst e
        rw [T_1]
        exact hb
      · rw [T_hi f b 0 i (by omega)]
        exact G.w_mono (Nat.zero_le _) (Nat.zero_le _) G.w_zero⟩
  | j + 1, hj => by
    have Z := T_z D0 f0 hb j (by omega)
    refine ⟨T_0 f b (j + 1), fun i h1 hi => ?_⟩
    by_cases e : i = j + 2
    · subst e
      rw [T_e]
      have := G.w_mul (G.w_neg (off_w G D0 f0 Z (n := j + 2) (by omega) hi (T_hi f b j (j + 2) (Nat.le_refl _)))) hb
      exact G.w_mono (by omega) (by omega) this
    · rw [T_s f b j i e]
      exact Z.w i h1 hi
theorem pp_z (D0 : Dr G N f) (Z : Zb G N h) : Pp G N f h := by
  have h3 := D0.n3
  have h8 := D0.n8
  have hc : ∀ j, j < N → ∀ i, i < N → G.Wt (3 * i + 1) (24 * i + 4) (C j (sf (N - j) f) h i) := fun j hj i hi => C_z G h8 Z j (sf (N - j) f) i hi fun l hl _ => dr_w G D0 (by omega)
  exact ⟨by omega, fun j hj => ⟨by omega, fun i hi => G.w_mono (by omega) (by omega) (hc j hj i hi), fun i hi => G.w_mono (by omega) (by omega) (zb_w G Z hi), fun n i hn hi => G.w_mono (by omega) (by omega) (G.w_mul (hc j hj i (by omega)) (zb_w G Z (i := n - i) (by omega)))⟩, fun i hi => G.w_mono (by decide) (by decide) (dr_w G D0 hi)⟩
/-- powers of such a row -/
theorem Pw_z (h8 : N ≤ 8) (Z : Zb G N h) : ∀ j n, n < N → G.Wt (3 * n) (24 * n) (Pw h j n)
  | 0, n, _ => by
    show G.Wt (3 * n) (24 * n) (dl 1 n)
    unfold dl
    split
    · exact G.w_mono (Nat.zero_le _) (Nat.zero_le _) G.w_one
    · exact G.w_mono (Nat.zero_le _) (Nat.zero_le _) G.w_zero
  | j + 1, n, hn => by
    show G.Wt (3 * n) (24 * n) (cv (Pw h j) h n)
    by_cases e : n = 0
    · subst e
      rw [cv0, Z.z, z_mul]
      exact G.w_mono (Nat.zero_le _) (Nat.zero_le _) G.w_zero
    · rw [cv_sm]
      refine G.w_mono (Nat.le_refl _) (by omega) (w_sm G (w := 3 * n) (m := 24 * n - 22) (n + 1) fun i hi => ?_)
      by_cases e2 : i = n
      · subst e2
        rw [Nat.sub_self, Z.z, z_mul]
        exact G.w_mono (Nat.zero_le _) (Nat.zero_le _) G.w_zero
      · exact G.w_mono (by omega) (by omega) (G.w_mul (Pw_z h8 Z j i (by omega)) (Z.w (n - i) (by omega) (by omega)))
theorem pq_z (D0 : Dr G N f) (Z : Zb G N h) : Pq G N f h := by
  have h3 := D0.n3
  have h8 := D0.n8
  exact ⟨by omega, fun j hj => ⟨by omega, fun i hi => G.w_mono (by omega) (by omega) (Pw_z G h8 Z j i hi), fun i hi => G.w_mono (by omega) (by omega) (zb_w G Z hi), fun n i hn hi => G.w_mono (by omega) (by omega) (G.w_mul (Pw_z G h8 Z j i (by omega)) (zb_w G Z (i := n - i) (by omega)))⟩, fun i hi => dr_ok G D0 hi, fun j n hj hn => G.w_mono (by omega) (by omega) (G.w_mul (dr_w G D0 hj) (Pw_z G h8 Z j n hn))⟩
/-! ### the row that turns -/
abbrev sz0 (N : Nat) (f : Nat → α) (a2 a3 : Sl) (k : Int × Int) : S := ⟨[.val (.int g), .val (tr G N f), a2, a3, .un, .un, .un], k⟩
theorem tu_0 (D0 : Dr G N f) : (sExp (eCall none D_need_power_row (aCons (eVar 0) (aCons (eVar 1) aNil)))) (sz0 G N f .un .un k) = .ok .nx (sz0 G N f .un .un k) := sExp_eq (eCall_at (ds := [.int g, tr G N f]) rfl (need_row G k D0))
theorem tu_at (D0 : Dr G N f) {i : Nat} (hi : i < N) : pkF 1 (eC (.int (i : Nat))) idxD (sz0 G N f .un .un k) = .ok (G.em (f i)) (sz0 G N f .un .un k) := pk_at (a := .int (i : Nat)) rfl rfl (ix_tr G f hi)
theorem tu_t (D0 : Dr G N f) : tOr (tNot (tV (eCall none D_is_nothing (aCons (eVar 0) (aCons (pkF 1 (eC (.int 0)) idxD) aNil))))) (tV (eCall none D_is_nothing (aCons (eVar 0) (aCons (pkF 1 (eC (.int 1)) idxD) aNil)))) (sz0 G N f .un .un k) = .ok (!decide (f 0 = 0) || decide (f 1 = 0)) (sz0 G N f .un .un k) := by
  have h3 := D0.n3
  have t0 := tV_at (eCall_at (den := D_is_nothing) (aCons_at (m := eVar 0) (d := .int g) rfl (aCons_at (tu_at G k D0 (i := 0) (by omega)) (rfl : aNil (sz0 G N f .un .un k) = .ok [] _))) (G.noth (f 0) k))
  have t1 := tV_at (eCall_at (den := D_is_nothing) (aCons_at (m := eVar 0) (d := .int g) rfl (aCons_at (tu_at G k D0 (i := 1) (by omega)) (rfl : aNil (sz0 G N f .un .un k) = .ok [] _))) (G.noth (f 1) k))
  have n0 := tNot_eq t0
  cases q : !decide (f 0 = 0) with
  | true =>
    rw [q] at n0
    exact tOr_t n0
  | false =>
    rw [q] at n0
    exact (tOr_f n0).trans t1
theorem turned_no (D0 : Dr G N f) (h : ¬(f 0 = 0 ∧ f 1 ≠ 0)) : D_turned_row [.int g, tr G N f] k = .exc "NotFound" k := by
  have t := tu_t G k D0
  have e : (!decide (f 0 = 0) || decide (f 1 = 0)) = true := by
    by_cases h0 : f 0 = 0
    · have h1 : f 1 = 0 := Decidable.byContradiction fun z => h ⟨h0, z⟩
      rw [decide_eq_true h1, Bool.or_true]
    · rw [decide_eq_false h0]; rfl
  rw [e] at t
  exact den_exc (k := k) (s1 := sz0 G N f .un .un k) ((sq_go (tu_0 G k D0)).trans (sq_exc ((sIf_t t).trans rfl)))
theorem oVal_at {m : M D} {r : M (List Ov)} {d : D} {os : List Ov} {s : S} (h : m s = .ok d s) (h2 : r s = .ok os s) : oVal m r s = .ok (.val d :: os) s := by
  unfold oVal
  rw [bnd_eq h, bnd_eq h2]
  rfl
theorem sPar_at {is : List Nat} {m : M (List Ov)} {os : List Ov} {s s' : S} (h : m s = .ok os s) (hl : os.length = is.length) (hs : ({ s with r := setAll s.r is (os.map slOf) } : S) = s') : sPar is m s = .ok .nx s' := by
  unfold sPar
  refine (bnd_eq h).trans ?_
  refine (if_pos hl).trans ?_
  rw [hs]
abbrev sz (N : Nat) (f : Nat → α) (b : α) (L : List D) (a5 a6 : Sl) (k : Int × Int) : S := ⟨[.val (.int g), .val (tr G N f), .val (G.em 0), .val (G.em b), .own (.lst L), a5, a6], k⟩
theorem tu_4 (h3 : 3 ≤ N) (b : α) : (sStI 4 (eVar 3) (eC (.int 1))) (sz G N f b (tl G N fun _ => 0) .un .un k) = .ok .nx (sz G N f b (tl G N (T f b 0)) .un .un k) := by
  have e := sStI_eq (i := 4) (me := eVar 3) (mj := eC (.int 1)) (s := sz G N f b (tl G N fun _ => 0) .un .un k) (d := G.em b) (j := ((1 : Nat) : Int)) rfl rfl rfl rfl (set_tl G (fun _ => 0) b (n := 1) (by omega))
  exact e
theorem turned (D0 : Dr G N f) (f0 : f 0 = 0) (f1 : f 1 ≠ 0) : ∃ b, f 1 * b = 1 ∧ G.Wt 1 2 b ∧ D_turned_row [.int g, tr G N f] k = .ok (tr G N (T f b (N - 2))) k := by
  have h3 := D0.n3
  have h8 := D0.n8
  obtain ⟨b, eb, fb, hb⟩ := G.back (D0.sl 1 (by omega)) f1
  refine ⟨b, fb, hb, ?_⟩
  have t := tu_t G k D0
  rw [decide_eq_true f0, decide_eq_false f1] at t
  have a2 : (sPar [2, 3] (oVal (eCall none D_number_of (aCons (eVar 0) (aCons (eC (.int 0)) aNil))) (oVal (eCall none D_back_of (aCons (eVar 0) (aCons (pkF 1 (eC (.int 1)) idxD) aNil))) oNil))) (sz0 G N f .un .un k) = .ok .nx (sz0 G N f (.val (G.em 0)) (.val (G.em b)) k) := sPar_at (oVal_at (eCall_at (ds := [.int g, .int 0]) rfl (G.num0 k)) (oVal_at (eCall_at (aCons_at (d := .int g) rfl (aCons_at (tu_at G k D0 (i := 1) (by omega)) rfl)) (eb k)) rfl)) rfl rfl
  have l1 : pkF 1 (PL.ret ()) (fun d _ => lenD [d]) (sz0 G N f (.val (G.em 0)) (.val (G.em b)) k) = .ok (.int (N : Nat)) (sz0 G N f (.val (G.em 0)) (.val (G.em b)) k) := pk_at (a := ()) rfl rfl (by rw [len_tup, tl_len])
  have l2 : eA lstD (aCons (eVar 2) aNil) (sz0 G N f (.val (G.em 0)) (.val (G.em b)) k) = .ok (.list [G.em 0]) (sz0 G N f (.val (G.em 0)) (.val (G.em b)) k) := rfl
  have a3 := sOwn_eq (i := 4) (f2_at l2 l1 (rep_fill G (N := N) (by omega) 0))
  have l3 : pkF 1 (PL.ret ()) (fun d _ => lenD [d]) (sz G N f b (tl G N (T f b 0)) .un .un k) = .ok (.int (N : Nat)) (sz G N f b (tl G N (T f b 0)) .un .un k) := pk_at (a := ()) rfl rfl (by rw [len_tup, tl_len])
  have src : bnd (aCons (eC (.int 2)) (aCons (pkF 1 (PL.ret ()) fun d _ => lenD [d]) aNil)) rng2 (sz G N f b (tl G N (T f b 0)) .un .un k) = .ok (rngL 2 (N - 2)) (sz G N f b (tl G N (T f b 0)) .un .un k) := by
    refine src_eq (aCons_at (d := .int 2) rfl (aCons_at l3 rfl)) ?_
    rw [rng2_int (by omega) (by omega) (by omega) (by omega)]
    have : ((N : Int) - 2).toNat = N - 2 := by omega
    rw [this]
  obtain ⟨q, e, u5, u6, rfl⟩ := forL_all (asg := gN 5) (body := (sq (sSet 6 (e2 idxD (eCall none D_put_row (aCons (eVar 0) (aCons (eVar 1) (aCons (pkF 4 (PL.ret ()) fun d _ => tupOfD [d]) aNil)))) (eVar 5))) (sStI 4 (eCall none D_product_of (aCons (eVar 0) (aCons (eCall none D_negative_of (aCons (eVar 0) (aCons (eVar 6) aNil))) (aCons (eVar 3) aNil)))) (eVar 5)))) (J := fun j q => ∃ u5 u6, q = sz G N f b (tl G N (T f b j)) u5 u6 k) (rngL 2 (N - 2)) 0 (sz G N f b (tl G N (T f b 0)) .un .un k) ⟨_, _, rfl⟩ fun j x q hx hq => by
    rw [Nat.zero_add] at hq ⊢
    obtain ⟨u5, u6, rfl⟩ := hq
    have hj : j < N - 2 := by
      have := (List.getElem?_eq_some_iff.mp hx).1
      simpa [rngL] using this
    have ex : x = .int ((j + 2 : Nat) : Int) := by
      simp [rngL, hj] at hx
      rw [← hx]
      exact congrArg PyData.int (by omega)
    subst ex
    have Z := T_z G D0 f0 hb j (by omega)
    have e1 : pkF 4 (PL.ret ()) (fun d _ => tupOfD [d]) (sz G N f b (tl G N (T f b j)) (.val (.int ((j + 2 : Nat) : Int))) u6 k) = .ok (tr G N (T f b j)) (sz G N f b (tl G N (T f b j)) (.val (.int ((j + 2 : Nat) : Int))) u6 k) := rfl
    have e2' := eCall_at (den := D_put_row) (aCons_at (m := eVar 0) (d := .int g) rfl (aCons_at (m := eVar 1) (d := tr G N f) rfl (aCons_at e1 (rfl : aNil (sz G N f b (tl G N (T f b j)) (.val (.int ((j + 2 : Nat) : Int))) u6 k) = .ok [] _)))) (put_row G N f (T f b j) k (pp_z G D0 Z))
    have ec : C N f (T f b j) (j + 2) = co f (T f b j) (j + 2) := co_of (T_0 f b j) f (by omega)
    have e3 := e2_at (f := idxD) (mb := eVar 5) (y := .int ((j + 2 : Nat) : Int)) e2' rfl (ix_tr G _ (i := j + 2) (by omega))
    rw [ec] at e3
    have b1 := sSet_at (i := 6) (s' := sz G N f b (tl G N (T f b j)) (.val (.int ((j + 2 : Nat) : Int))) (.val (G.em (co f (T f b j) (j + 2)))) k) e3 rfl
    have e4 := eCall_at (den := D_negative_of) (q := aCons (eVar 0) (aCons (eVar 6) aNil)) (ds := [.int g, G.em (co f (T f b j) (j + 2))]) (s := sz G N f b (tl G N (T f b j)) (.val (.int ((j + 2 : Nat) : Int))) (.val (G.em (co f (T f b j) (j + 2)))) k) rfl (G.neg _ k)
    have hw := off_w G D0 f0 Z (n := j + 2) (by omega) (by omega) (T_hi f b j (j + 2) (Nat.le_refl _))
    have e5 := eCall_at (den := D_product_of) (aCons_at (m := eVar 0) (d := .int g) rfl (aCons_at e4 (aCons_at (m := eVar 3) (d := G.em b) rfl (rfl : aNil (sz G N f b (tl G N (T f b j)) (.val (.int ((j + 2 : Nat) : Int))) (.val (G.em (co f (T f b j) (j + 2)))) k) = .ok [] _)))) (G.prod (G.w_mono (by omega) (by omega) (G.w_neg hw)) (G.w_mono (by decide) (by decide) hb) k)
    have b2 := sStI_eq (i := 4) (mj := eVar 5) (j := ((j + 2 : Nat) : Int)) e5 rfl rfl rfl (set_tl G (T f b j) _ (n := j + 2) (by omega))
    exact ⟨_, asg_eq gN_eq (sq_nx b1 b2), _, _, rfl⟩
  have hl : (rngL 2 (N - 2)).length = N - 2 := by simp [rngL]
  rw [Nat.zero_add, hl] at e
  have a5 := sFor_eq src e
  have a6 : (sRet (pkF 4 (PL.ret ()) fun d _ => tupOfD [d])) (sz G N f b (tl G N (T f b (N - 2))) u5 u6 k) = .ok (.rt (tr G N (T f b (N - 2)))) (sz G N f b (tl G N (T f b (N - 2))) u5 u6 k) := rfl
  exact den_rt (k := k) (sq_nx (tu_0 G k D0) (sq_nx (go_f t) (sq_nx a2 (sq_nx a3 (sq_nx (tu_4 G k h3 b) (sq_nx a5 a6))))))
/-! ### both ways -/
theorem T_right (D0 : Dr G N f) (f0 : f 0 = 0) {b : α} (fb : f 1 * b = 1) : tl G N (C N f (T f b (N - 2))) = tl G N xx := tl_congr G fun i hi => by
  have h3 := D0.n3
  rw [co_of (T_0 f b (N - 2)) f hi]
  exact T_ok f0 fb (N - 2) i (by omega)
theorem T_back (D0 : Dr G N f) (f0 : f 0 = 0) {b : α} (fb : f 1 * b = 1) : tl G N (C N (T f b (N - 2)) f) = tl G N xx := tl_congr G fun i hi => by
  have h3 := D0.n3
  rw [co_of f0 (T f b (N - 2)) hi]
  exact T_left (c := b) f0 fb (by omega)
theorem T_wide (D0 : Dr G N f) (f0 : f 0 = 0) {b : α} (hb : G.Wt 1 2 b) : ∀ i, i < N → G.Wt 21 168 (T f b (N - 2) i) := fun i hi => by
  have h3 := D0.n3
  have h8 := D0.n8
  exact G.w_mono (by omega) (by omega) (zb_w G (T_z G D0 f0 hb (N - 2) (by omega)) hi)
end
end
end K90
set_option maxHeartbeats 2000000
namespace K90
open PySem PySem.Spec PL LL GD
/-! ### bent values with bounded integers -/
def SmI (c : Int) (P : D → Prop) (e : D) : Prop := SmP P e ∧ ∀ v, e = .int v → -c ≤ v ∧ v ≤ c
theorem bent_oddI {P : D → Prop} {c : Int} (hc : 9 ≤ c) (hI : P (.int 0) ∧ P (.int 1)) (d : D) (hd : ∀ v, d = .int v → -c ≤ v - 1 ∧ v + 1 ≤ c) {k : Int × Int} (hk : CupOk k) : ∃ e k' a, (sq (sSet 2 (eA lstD (aCons (eC .none) (aCons (eC (.bool true)) (aCons (eC (.bool false)) (aCons (eC (.int 0)) (aCons (eC (.int 1)) (aCons (e1 negD (eC (.int 1))) (aCons (eC (.int 2)) (aCons (eC (.int 9)) (aCons (eC (.str "")) (aCons (eA tupD aNil) (aCons (eA lstD aNil) (aCons (eA tupD (aCons (eC (.int 0)) aNil)) (aCons (eA tupD (aCons (eC (.int 0)) (aCons (eC (.int 0)) aNil))) (aCons (eA tupD (aCons (eC (.int 1)) (aCons (eC (.int 1)) aNil))) (aCons (eA tupD (aCons (eC (.int 0)) (aCons (eC (.int 1)) aNil))) aNil))))))))))))))))) (sRet (eCall (some 0) D__law_some (aCons (e2 addD (eVar 2) (eIf (tV (e2 eqD (eCall none D__law_sort (aCons (eVar 1) aNil)) (eC (.int 2)))) (e2 mulD (eA lstD (aCons (e2 addD (eVar 1) (eC (.int 1))) (aCons (e2 subD (eVar 1) (eC (.int 1))) aNil))) (eC (.int 4))) (eA lstD aNil))) aNil)))) (bs d .un .un .un k) = .ok (.rt e) ⟨a, k'⟩ ∧ SmI c P e ∧ CupOk k' := by
  have e1 : ∃ xs, e2 addD (eVar 2) (eIf (tV (e2 eqD (eCall none D__law_sort (aCons (eVar 1) aNil)) (eC (.int 2)))) (e2 mulD (eA lstD (aCons (e2 addD (eVar 1) (eC (.int 1))) (aCons (e2 subD (eVar 1) (eC (.int 1))) aNil))) (eC (.int 4))) (eA lstD aNil)) (bs d (.val (.list odds)) .un .un k) = .ok (.list xs) (bs d (.val (.list odds)) .un .un k) ∧ xs ≠ [] ∧ xs.length ≤ 1000 ∧ ∀ e ∈ xs, SmI c P e := by
    have so : ∀ e ∈ odds, SmI c P e := fun e he => ⟨fun l hl => by
      subst hl
      simp only [odds, List.mem_cons, List.not_mem_nil, or_false, PyData.tuple.injEq, reduceCtorEq, false_or] at he
      rcases he with rfl | rfl | rfl | rfl | rfl <;> simp [hI.1, hI.2], fun v hv => by
      subst hv
      simp only [odds, List.mem_cons, List.not_mem_nil, or_false, PyData.int.injEq, reduceCtorEq, false_or] at he
      rcases he with rfl | rfl | rfl | rfl | rfl <;> omega⟩
    cases d with
    | int v =>
      refine ⟨odds ++ [.int (v + 1), .int (v - 1), .int (v + 1), .int (v - 1), .int (v + 1), .int (v - 1), .int (v + 1), .int (v - 1)], e2_eq (x := .list odds) rfl ((eIf_t (s1 := bs (.int v) (.val (.list odds)) .un .un k) rfl).trans rfl) rfl, by simp [odds], by simp [odds], fun e he => ?_⟩
      rcases List.mem_append.mp he with he | he
      · exact so e he
      · refine ⟨fun l hl => ?_, fun w hw => ?_⟩
        · subst hl
          simp at he
        · subst hw
          have := hd v rfl
          simp at he
          omega
    | _ => exact ⟨odds, rfl, by simp [odds], by simp [odds], so⟩
  obtain ⟨xs, e1, hn, hl, hs⟩ := e1
  obtain ⟨e, k', e2', he, hk'⟩ := some_ hk hn hl
  exact ⟨e, k', _, sq_nx (sSet_eq (i := 2) (s := bs d .un .un .un k) (s1 := bs d .un .un .un k) (d := .list odds) rfl) (sRet_eq (eCallC_eq (i := 0) (k := k') rfl (aCons_eq e1 rfl) e2')), hs e he, hk'⟩
theorem bent_noI {P : D → Prop} {c : Int} (hc : 9 ≤ c) (hI : P (.int 0) ∧ P (.int 1)) (L : Dn) {d : D} (hd : ∀ v, d = .int v → -c ≤ v - 1 ∧ v + 1 ≤ c) (h : ∀ ds, d ≠ .tuple ds) {k : Int × Int} (hk : CupOk k) : ∃ e k', denOf N__law_bent.length true (m__law_bent L) [d] k = .ok e k' ∧ SmI c P e ∧ CupOk k' := by
  obtain ⟨e, k', a, h1, h2, h3⟩ := bent_oddI hc hI d hd hk
  refine ⟨e, k', ?_, h2, h3⟩
  have t1 : eIsi isTupD (eVar 1) (bs d .un .un .un k) = .ok (.bool false) (bs d .un .un .un k) := by
    show Res.ok (PyData.bool (isTupD d)) _ = _
    rw [isTup_no h]
  exact den_rt (k := k) (s1 := ⟨a, k'⟩) (sq_rt ((sIf_t (tOr_t (tNot_eq (tV_eq t1)))).trans h1))
theorem bent_tupI {P : D → Prop} {c : Int} (hc : 9 ≤ c) (hI : P (.int 0) ∧ P (.int 1)) (L : Dn) {ds : List D} {k : Int × Int} (hk : CupOk k) (hl : ds.length ≤ 100) (hs : shD (.tuple ds) = true) (hP : ∀ e ∈ ds, P e) (h : ∀ e ∈ ds, ∀ k, CupOk k → ∃ f k', L [e] k = .ok f k' ∧ P f ∧ CupOk k') :
    ∃ e k', denOf N__law_bent.length true (m__law_bent L) [.tuple ds] k = .ok e k' ∧ SmI c P e ∧ CupOk k' := by
  have hm : lim = 1000000 := rfl
  have t0 : tNot (tV (eIsi isTupD (eVar 1))) (bs (.tuple ds) .un .un .un k) = .ok false (bs (.tuple ds) .un .un .un k) := rfl
  have t1 : tV (e2 eqD (eVar 1) (eA tupD aNil)) (bs (.tuple ds) .un .un .un k) = .ok (decide (ds = [])) (bs (.tuple ds) .un .un .un k) := by
    refine tV_eq (e2_eq (x := .tuple ds) (y := .tuple []) rfl rfl ?_)
    have s0 : shD (.tuple []) = true := sh_tup []
    unfold eqD
    rw [hs, s0, if_pos (show (true && true) = true from rfl)]
    cases ds <;> rfl
  by_cases h0 : ds = []
  · obtain ⟨e, k', a, h1, h2, h3⟩ := bent_oddI hc hI (.tuple ds) (fun v hv => by cases hv) hk
    rw [decide_eq_true h0] at t1
    exact ⟨e, k', den_rt (k := k) (s1 := ⟨a, k'⟩) (sq_rt ((sIf_t ((tOr_f t0).trans (tOr_t t1))).trans h1)), h2, h3⟩
  · rw [decide_eq_false h0] at t1
    obtain ⟨r, k1, e1, r0, r1, hk1⟩ := roll hk (n := 6) (by decide) (by decide)
    have t2 : tV (e2 eqD (eCall (some 0) D__law_roll (aCons (eC (.int 6)) aNil)) (eC (.int 0))) (bs (.tuple ds) .un .un .un k) = .ok (decide (r = 0)) (bs (.tuple ds) .un .un .un k1) :=
      tV_eq (e2_eq (x := .int r) (y := .int 0) (eCallC_eq (k := k1) rfl rfl e1) rfl (eq_int _ _))
    have t3 := (tOr_f t0).trans ((tOr_f t1).trans t2)
    by_cases hr : r = 0
    · obtain ⟨e, k', a, h1, h2, h3⟩ := bent_oddI hc hI (.tuple ds) (fun v hv => by cases hv) hk1
      rw [decide_eq_true hr] at t3
      exact ⟨e, k', den_rt (k := k) (s1 := ⟨a, k'⟩) (sq_rt ((sIf_t t3).trans h1)), h2, h3⟩
    · rw [decide_eq_false hr] at t3
      have hp : 0 < ds.length := List.length_pos_iff.mpr h0
      obtain ⟨at_, k2, e2', a0, a1, hk2⟩ := roll hk1 (n := (ds.length : Int)) (by omega) (by omega)
      obtain ⟨way, k3, e3, w0, w1, hk3⟩ := roll hk2 (n := 10) (by decide) (by decide)
      have s1 : sPar [3, 4] (oVal (eCall (some 0) D__law_roll (aCons (pkF 1 (PL.ret ()) fun d _ => lenD [d]) aNil)) (oVal (eCall (some 0) D__law_roll (aCons (eC (.int 10)) aNil)) oNil)) (bs (.tuple ds) .un .un .un k1) = .ok .nx (bs (.tuple ds) .un (.val (.int at_)) (.val (.int way)) k3) := by
        refine src_eq (a := [.val (.int at_), .val (.int way)]) (s1 := bs (.tuple ds) .un .un .un k3) ?_ rfl
        exact src_eq (eCallC_eq (i := 0) (k := k2) (s := bs (.tuple ds) .un .un .un k1) rfl (aCons_eq (pkF_eq (a := ()) rfl rfl rfl (len_tup ds)) rfl) e2') (src_eq (src_eq (eCallC_eq (i := 0) (k := k3) (s := bs (.tuple ds) .un .un .un k2) (ds := [.int 10]) rfl rfl e3) rfl) rfl)
      have cl := cut_len ds
      have p1 : pkF 1 (two (PL.ret none) (bnd (eVar 3) asI)) (fun d y => sliD y.1 y.2 d) (bs (.tuple ds) .un (.val (.int at_)) (.val (.int way)) k3) = .ok (.tuple (cutD ds none (some at_))) (bs (.tuple ds) .un (.val (.int at_)) (.val (.int way)) k3) := pkF_eq (a := (none, some at_)) rfl rfl rfl rfl
      by_cases hw2 : way < 2
      · have q1 : tV (e2 ltD (eVar 4) (eC (.int 2))) (bs (.tuple ds) .un (.val (.int at_)) (.val (.int way)) k3) = .ok true (bs (.tuple ds) .un (.val (.int at_)) (.val (.int way)) k3) := tV_eq (e2_eq (x := .int way) (y := .int 2) rfl rfl (by show some (PyData.bool (decide (way < 2))) = _; rw [decide_eq_true hw2]))
        have p2 : pkF 1 (two (bnd (e2 addD (eVar 3) (eVar 4)) asI) (PL.ret none)) (fun d y => sliD y.1 y.2 d) (bs (.tuple ds) .un (.val (.int at_)) (.val (.int way)) k3) = .ok (.tuple (cutD ds (some (at_ + way)) none)) (bs (.tuple ds) .un (.val (.int at_)) (.val (.int way)) k3) := pkF_eq (a := (some (at_ + way), none)) rfl rfl rfl rfl
        have p3 : ∃ cc : List D, cc.length ≤ 100 ∧ (∀ x ∈ cc, P x) ∧ eIf (tV (e2 eqD (eVar 4) (eC (.int 0)))) (pkF 1 (two (bnd (eVar 3) asI) (bnd (e2 addD (eVar 3) (eC (.int 1))) asI)) fun d y => sliD y.1 y.2 d) (eA tupD aNil) (bs (.tuple ds) .un (.val (.int at_)) (.val (.int way)) k3) = .ok (.tuple cc) (bs (.tuple ds) .un (.val (.int at_)) (.val (.int way)) k3) := by
          have q2 : tV (e2 eqD (eVar 4) (eC (.int 0))) (bs (.tuple ds) .un (.val (.int at_)) (.val (.int way)) k3) = .ok (decide (way = 0)) (bs (.tuple ds) .un (.val (.int at_)) (.val (.int way)) k3) := tV_eq (e2_eq (x := .int way) (y := .int 0) rfl rfl (eq_int _ _))
          by_cases h4 : way = 0
          · rw [decide_eq_true h4] at q2
            exact ⟨cutD ds (some at_) (some (at_ + 1)), Nat.le_trans (cl _ _) hl, fun x hx => hP x (cut_mem hx), (eIf_t q2).trans (pkF_eq (a := (some at_, some (at_ + 1))) rfl rfl rfl rfl)⟩
          · rw [decide_eq_false h4] at q2
            exact ⟨[], by simp, fun x hx => absurd hx (by simp), (eIf_f q2).trans rfl⟩
        obtain ⟨cc, hcl, hcP, p3⟩ := p3
        have c1 := cl none (some at_)
        have c2 := cl (some (at_ + way)) none
        have hv := e2_eq (e2_eq p1 p2 (add_tup (by omega))) p3 (add_tup (by rw [List.length_append]; omega))
        exact ⟨_, k3, den_rt (k := k) (sq_nx ((sIf_f t3).trans rfl) (sq_nx s1 (sq_rt ((sIf_t q1).trans (sRet_eq hv))))), ⟨sm_app (by omega) (fun x hx => hP x (cut_mem hx)) (fun x hx => hP x (cut_mem hx)) hcP, fun v hv => by cases hv⟩, hk3⟩
      · have q1 : tV (e2 ltD (eVar 4) (eC (.int 2))) (bs (.tuple ds) .un (.val (.int at_)) (.val (.int way)) k3) = .ok false (bs (.tuple ds) .un (.val (.int at_)) (.val (.int way)) k3) := tV_eq (e2_eq (x := .int way) (y := .int 2) rfl rfl (by show some (PyData.bool (decide (way < 2))) = _; rw [decide_eq_false hw2]))
        have q2 : tV (e2 eqD (eVar 4) (eC (.int 2))) (bs (.tuple ds) .un (.val (.int at_)) (.val (.int way)) k3) = .ok (decide (way = 2)) (bs (.tuple ds) .un (.val (.int at_)) (.val (.int way)) k3) := tV_eq (e2_eq (x := .int way) (y := .int 2) rfl rfl (eq_int _ _))
        by_cases h4 : way = 2
        · rw [decide_eq_true h4] at q2
          have hv : eA lstOfD (aCons (eVar 1) aNil) (bs (.tuple ds) .un (.val (.int at_)) (.val (.int way)) k3) = .ok (.list ds) (bs (.tuple ds) .un (.val (.int at_)) (.val (.int way)) k3) := rfl
          exact ⟨.list ds, k3, den_rt (k := k) (s1 := bs (.tuple ds) .un (.val (.int at_)) (.val (.int way)) k3) (sq_nx ((sIf_f t3).trans rfl) (sq_nx s1 (sq_nx ((sIf_f q1).trans rfl) (sq_rt ((sIf_t q2).trans (sRet_eq hv)))))), ⟨(fun l hl => by cases hl), fun v hv => by cases hv⟩, hk3⟩
        · rw [decide_eq_false h4] at q2
          have q3 : tV (e2 eqD (eVar 4) (eC (.int 3))) (bs (.tuple ds) .un (.val (.int at_)) (.val (.int way)) k3) = .ok (decide (way = 3)) (bs (.tuple ds) .un (.val (.int at_)) (.val (.int way)) k3) := tV_eq (e2_eq (x := .int way) (y := .int 3) rfl rfl (eq_int _ _))
          by_cases h5 : way = 3
          · rw [decide_eq_true h5] at q3
            have hv : PL.e1 revD (eVar 1) (bs (.tuple ds) .un (.val (.int at_)) (.val (.int way)) k3) = .ok (.tuple ds.reverse) (bs (.tuple ds) .un (.val (.int at_)) (.val (.int way)) k3) := rfl
            exact ⟨.tuple ds.reverse, k3, den_rt (k := k) (s1 := bs (.tuple ds) .un (.val (.int at_)) (.val (.int way)) k3) (sq_nx ((sIf_f t3).trans rfl) (sq_nx s1 (sq_nx ((sIf_f q1).trans rfl) (sq_nx ((sIf_f q2).trans rfl) (sq_rt ((sIf_t q3).trans (sRet_eq hv))))))), ⟨(fun l hl' => by cases hl'; exact ⟨by rw [List.length_reverse]; omega, fun x hx => hP x (List.mem_reverse.mp hx)⟩), fun v hv => by cases hv⟩, hk3⟩
          · rw [decide_eq_false h5] at q3
            obtain ⟨an, ean⟩ : ∃ an : Nat, (an : Int) = at_ := ⟨at_.toNat, Int.toNat_of_nonneg a0⟩
            have hb : an < ds.length := by omega
            have hi : idxD (.tuple ds) (.int (an : Nat)) = some (ds[an]'hb) := at_pos (List.getElem?_eq_getElem hb)
            rw [ean] at hi
            obtain ⟨f, k4, e4, hf, hk4⟩ := h _ (List.getElem_mem hb) k3 hk3
            have p2 : eA tupD (aCons (eCall (some 0) L (aCons (pkF 1 (eVar 3) idxD) aNil)) aNil) (bs (.tuple ds) .un (.val (.int at_)) (.val (.int way)) k3) = .ok (.tuple [f]) (bs (.tuple ds) .un (.val (.int at_)) (.val (.int way)) k4) :=
              eA_eq (aCons_eq (eCallC_eq (k := k4) rfl (aCons_eq (pkF_eq (a := .int at_) rfl rfl rfl hi) rfl) e4) rfl) rfl
            have p3 : pkF 1 (two (bnd (e2 addD (eVar 3) (eC (.int 1))) asI) (PL.ret none)) (fun d y => sliD y.1 y.2 d) (bs (.tuple ds) .un (.val (.int at_)) (.val (.int way)) k4) = .ok (.tuple (cutD ds (some (at_ + 1)) none)) (bs (.tuple ds) .un (.val (.int at_)) (.val (.int way)) k4) := pkF_eq (a := (some (at_ + 1), none)) rfl rfl rfl rfl
            have c1 := cl none (some at_)
            have c2 := cl (some (at_ + 1)) none
            have hv := e2_eq (e2_eq p1 p2 (add_tup (by simp; omega))) p3 (add_tup (by rw [List.length_append]; simp; omega))
            exact ⟨_, k4, den_rt (k := k) (sq_nx ((sIf_f t3).trans rfl) (sq_nx s1 (sq_nx ((sIf_f q1).trans rfl) (sq_nx ((sIf_f q2).trans rfl) (sq_nx ((sIf_f q3).trans rfl) (sRet_eq hv)))))), ⟨sm_app (by simp; omega) (fun x hx => hP x (cut_mem hx)) (fun x hx => by rw [List.mem_singleton.mp hx]; exact hf) (fun x hx => hP x (cut_mem hx)), fun v hv => by cases hv⟩, hk4⟩

def P0 (x : D) : Prop := ∀ v, x = .int v → -1000 ≤ v ∧ v ≤ 1000
def P1 (x : D) : Prop := SmI 1000 P0 x
theorem p0_01 : P0 (.int 0) ∧ P0 (.int 1) := ⟨fun v hv => by cases hv; omega, fun v hv => by cases hv; omega⟩
theorem p1_01 : P1 (.int 0) ∧ P1 (.int 1) := ⟨⟨fun l hl => (by cases hl), fun v hv => by cases hv; omega⟩, ⟨fun l hl => (by cases hl), fun v hv => by cases hv; omega⟩⟩
/-- what an element is -/
def El (x : D) : Prop := (∃ v : Int, x = .int v ∧ -100 ≤ v ∧ v ≤ 100) ∨ ∃ a b : Int, x = fr a b ∧ -100 ≤ a ∧ a ≤ 100 ∧ -100 ≤ b ∧ b ≤ 100
theorem el_p1 {x : D} (h : El x) : P1 x := by
  rcases h with ⟨v, rfl, h0, h1⟩ | ⟨a, b, rfl, h⟩
  · exact ⟨fun l hl => (by cases hl), fun w hw => by cases hw; omega⟩
  · refine ⟨fun l hl => ?_, fun w hw => by cases hw⟩
    cases hl
    refine ⟨by show 2 ≤ 1000; decide, fun y hy => ?_⟩
    rcases List.mem_cons.mp hy with rfl | hy
    · exact fun w hw => by cases hw; omega
    · rcases List.mem_cons.mp hy with rfl | hy
      · exact fun w hw => by cases hw; omega
      · cases hy
theorem bent_el {x : D} (h : El x) {k : Int × Int} (hk : CupOk k) : ∃ e k', L__law_bent 7 [x] k = .ok e k' ∧ P1 e ∧ CupOk k' := by
  rcases h with ⟨v, rfl, h0, h1⟩ | ⟨a, b, rfl, h⟩
  · exact bent_noI (c := 1000) (P := P0) (by decide) p0_01 (L__law_bent 6) (fun w hw => by cases hw; omega) (fun ds hd => by cases hd) hk
  · refine bent_tupI (c := 1000) (P := P0) (by decide) p0_01 (L__law_bent 6) hk (by show 2 ≤ 100; decide) (sh_fr a b) (fun e he => ?_) fun e he k hk => ?_
    · rcases List.mem_cons.mp he with rfl | he
      · exact fun w hw => by cases hw; omega
      · rcases List.mem_cons.mp he with rfl | he
        · exact fun w hw => by cases hw; omega
        · cases he
    · have hi : ∃ v : Int, e = .int v ∧ -100 ≤ v ∧ v ≤ 100 := by
        rcases List.mem_cons.mp he with rfl | he
        · exact ⟨a, rfl, by omega, by omega⟩
        · rcases List.mem_cons.mp he with rfl | he
          · exact ⟨b, rfl, by omega, by omega⟩
          · cases he
      obtain ⟨v, rfl, h0, h1⟩ := hi
      obtain ⟨f, k', h2, h3, h4⟩ := bent_noI (c := 1000) (P := fun _ => True) (by decide) ⟨trivial, trivial⟩ (L__law_bent 5) (d := .int v) (fun w hw => by cases hw; omega) (fun ds hd => by cases hd) hk
      exact ⟨f, k', h2, h3.2, h4⟩
theorem bent_row {ds : List D} (hl : ds.length ≤ 100) (hs : shD (.tuple ds) = true) (h : ∀ x ∈ ds, El x) {k : Int × Int} (hk : CupOk k) : ∃ e k', D__law_bent [.tuple ds] k = .ok e k' ∧ SmP P1 e ∧ CupOk k' := by
  obtain ⟨e, k', h1, h2, h3⟩ := bent_tupI (c := 1000) (P := P1) (by decide) p1_01 (L__law_bent 7) hk hl hs (fun x hx => el_p1 (h x hx)) fun x hx k hk => bent_el (h x hx) hk
  exact ⟨e, k', h1, h2.1, h3⟩
end K90
set_option maxHeartbeats 2000000
namespace K90
open PySem PySem.Spec PL LL GD
/-! ### any value judged as a row -/
def nZ : D → Bool
  | .tuple [.int a, .int b] => decide (0 < b) && decide (Nat.gcd a.natAbs b.natAbs = 1)
  | _ => false
def nB (g : Int) (x : D) : Bool := if g = 0 then nZ x else wh 0 (g - 1) x
theorem nz1 (a : D) : nZ (.tuple [a]) = false := by cases a <;> rfl
theorem nz3 (a b c : D) (r : List D) : nZ (.tuple (a :: b :: c :: r)) = false := by cases a <;> cases b <;> rfl
theorem nz2 (a b : D) (h : ¬((∃ v, a = .int v) ∧ ∃ w, b = .int w)) : nZ (.tuple [a, b]) = false := by
  cases a with
  | int v => cases b with
    | int w => exact absurd ⟨⟨v, rfl⟩, w, rfl⟩ h
    | _ => rfl
  | _ => rfl
theorem wh_big {a : Int} (h0 : -1000 ≤ a) (h1 : a ≤ 1000) : wh (-10000000000000000000000000000000000000000) 10000000000000000000000000000000000000000 (.int a) = true := by
  show (decide (-10000000000000000000000000000000000000000 ≤ a) && decide (a ≤ 10000000000000000000000000000000000000000)) = true
  rw [decide_eq_true (by omega), decide_eq_true (by omega)]; rfl
theorem wh_pos {b : Int} (h1 : b ≤ 1000) : wh 1 10000000000000000000000000000000000000000 (.int b) = decide (0 < b) := by
  show (decide (1 ≤ b) && decide (b ≤ 10000000000000000000000000000000000000000)) = _
  rw [decide_eq_true (show b ≤ 10000000000000000000000000000000000000000 by omega), Bool.and_true]
  exact decide_eq_decide.mpr (by omega)
theorem wh_other {lo hi : Int} {x : D} (h : ∀ v, x ≠ .int v) : wh lo hi x = false := by
  cases x with
  | int v => exact absurd rfl (h v)
  | _ => rfl
abbrev A1 : M (List D) := aCons (pkF 1 (eC (.int 0)) idxD) (aCons (PL.e1 negD (eC (.int 10000000000000000000000000000000000000000))) (aCons (eC (.int 10000000000000000000000000000000000000000)) aNil))
abbrev A2 : M (List D) := aCons (pkF 1 (eC (.int 1)) idxD) (aCons (eC (.int 1)) (aCons (eC (.int 10000000000000000000000000000000000000000)) aNil))
/-- a pair of any two values -/
theorem f_pair (a b : D) (k : Int × Int) {r : Fl} {q : S} (h : tOr (tNot (tV (eCall none D_is_whole A1))) (tNot (tV (eCall none D_is_whole A2))) (v2 (.int 0) (.tuple [a, b]) k) = .ok true (v2 (.int 0) (.tuple [a, b]) k)) : D_fits_ground [.int 0, .tuple [a, b]] k = .ok (.bool false) k := by
  have e0 : tV (e2 neD (eVar 0) (eC (.int 0))) (v2 (.int 0) (.tuple [a, b]) k) = .ok false (v2 (.int 0) (.tuple [a, b]) k) := rfl
  have e1 : eCall none D_is_tuple_of (aCons (eVar 1) (aCons (eC (.int 2)) (aCons (eC (.int 2)) aNil))) (v2 (.int 0) (.tuple [a, b]) k) = .ok (.bool true) (v2 (.int 0) (.tuple [a, b]) k) := eCall_at (ds := [.tuple [a, b], .int 2, .int 2]) rfl (is_tuple _ 2 2 k)
  exact den_rt (k := k) (s1 := v2 (.int 0) (.tuple [a, b]) k) (sq_nx (go_f e0) (sq_rt ((sIf_t ((tOr_f (tNot_eq (tV_eq e1))).trans h)).trans rfl)))
theorem f_w1 (a b : D) (k : Int × Int) : eCall none D_is_whole A1 (v2 (.int 0) (.tuple [a, b]) k) = .ok (.bool (wh (-10000000000000000000000000000000000000000) 10000000000000000000000000000000000000000 a)) (v2 (.int 0) (.tuple [a, b]) k) := eCall_at (ds := [a, .int (-10000000000000000000000000000000000000000), .int 10000000000000000000000000000000000000000]) rfl (is_whole _ _ _ k)
theorem f_w2 (a b : D) (k : Int × Int) : eCall none D_is_whole A2 (v2 (.int 0) (.tuple [a, b]) k) = .ok (.bool (wh 1 10000000000000000000000000000000000000000 b)) (v2 (.int 0) (.tuple [a, b]) k) := eCall_at (ds := [b, .int 1, .int 10000000000000000000000000000000000000000]) rfl (is_whole _ _ _ k)
/-- the law's: two values that are not both integers -/
theorem n_pair (a b : D) (h : ¬((∃ v, a = .int v) ∧ ∃ w, b = .int w)) (k : Int × Int) : D__law_is_number [.int 0, .tuple [a, b]] k = .ok (.bool false) k := by
  have e0 : tV (e2 neD (eVar 0) (eC (.int 0))) (⟨[.val (.int 0), .val (.tuple [a, b]), .un], k⟩ : S) = .ok false (⟨[.val (.int 0), .val (.tuple [a, b]), .un], k⟩ : S) := rfl
  have so : ∀ x : D, (sortI x = 2) ↔ ∃ v, x = .int v := fun x => by
    cases x with
    | int v => exact ⟨fun _ => ⟨v, rfl⟩, fun _ => rfl⟩
    | _ => exact ⟨fun z => (by cases z), fun ⟨v, z⟩ => (by cases z)⟩
  have z := eLc_pick (α := D) (e := id) (p := fun x => !decide (sortI x = 2)) (fun _ => PyData.int 1) (src := bnd (eVar 1) itD) (asg := gN 2) (tst := tV (e2 neD (eCall none D__law_sort (aCons (eVar 2) aNil)) (eC (.int 2)))) (elt := eC (.int 1)) (vs := [2]) (s := (⟨[.val (.int 0), .val (.tuple [a, b]), .un], k⟩ : S)) (s1 := (⟨[.val (.int 0), .val (.tuple [a, b]), .un], k⟩ : S)) (r0 := [.val (.int 0), .val (.tuple [a, b]), .un]) (r2 := [.val (.int 0), .val (.tuple [a, b]), .un]) (l := [a, b]) rfl (by show 2 ≤ lim; decide) rfl rfl fun x hx => by
    refine ⟨[.val (.int 0), .val (.tuple [a, b]), .val x], asg_eq gN_eq (tV_at (e2_at (y := .int 2) (eCall_at (ds := [x]) (s := ⟨[.val (.int 0), .val (.tuple [a, b]), .val x], k⟩) rfl (sort x k)) rfl (ne_int _ _))), fun _ => ⟨_, rfl, rfl⟩, fun _ => rfl⟩
  have e5 : ([a, b].filter fun x => !decide (sortI x = 2)).map (fun _ => PyData.int 1) = zs (([a, b].filter fun x => !decide (sortI x = 2)).map fun _ => (1 : Int)) := by unfold zs; rw [List.map_map]; rfl
  rw [e5] at z
  have e6 : tV (e2 neD (frz (eLc (bnd (eVar 1) itD) (gN 2) (tV (e2 neD (eCall none D__law_sort (aCons (eVar 2) aNil)) (eC (.int 2)))) (eC (.int 1)) [2])) (eA lstD aNil)) (⟨[.val (.int 0), .val (.tuple [a, b]), .un], k⟩ : S) = .ok true (⟨[.val (.int 0), .val (.tuple [a, b]), .un], k⟩ : S) := by
    refine tV_at (e2_at (y := .list (zs [])) (frz_eq z) rfl ?_)
    have : eqD (.list (zs (([a, b].filter fun x => !decide (sortI x = 2)).map fun _ => (1 : Int)))) (.list (zs [])) = some (.bool false) := by
      rw [eq_lst, decide_eq_false]
      intro hz
      refine h ⟨(so a).mp ?_, (so b).mp ?_⟩
      · refine Decidable.byContradiction fun na => ?_
        have : a ∈ [a, b].filter fun x => !decide (sortI x = 2) := List.mem_filter.mpr ⟨by simp, by rw [decide_eq_false na]; rfl⟩
        rw [List.map_eq_nil_iff.mp hz] at this
        cases this
      · refine Decidable.byContradiction fun nb => ?_
        have : b ∈ [a, b].filter fun x => !decide (sortI x = 2) := List.mem_filter.mpr ⟨by simp, by rw [decide_eq_false nb]; rfl⟩
        rw [List.map_eq_nil_iff.mp hz] at this
        cases this
    have e7 : ∀ (x y : D) (b : Bool), eqD x y = some (.bool b) → neD x y = some (.bool (!b)) := fun x y b hb => by
      unfold eqD at hb
      unfold neD
      split at hb
      · rename_i hs
        rw [if_pos hs]
        injection hb with hb
        injection hb with hb
        rw [hb]
      · cases hb
    exact e7 _ _ _ this
  have t : tOr (tV (e2 neD (eCall none D__law_sort (aCons (eVar 1) aNil)) (eC (.int 4)))) (tOr (tV (e2 neD (pkF 1 (PL.ret ()) fun d _ => lenD [d]) (eC (.int 2)))) (tV (e2 neD (frz (eLc (bnd (eVar 1) itD) (gN 2) (tV (e2 neD (eCall none D__law_sort (aCons (eVar 2) aNil)) (eC (.int 2)))) (eC (.int 1)) [2])) (eA lstD aNil)))) (⟨[.val (.int 0), .val (.tuple [a, b]), .un], k⟩ : S) = .ok true (⟨[.val (.int 0), .val (.tuple [a, b]), .un], k⟩ : S) := (tOr_f rfl).trans ((tOr_f rfl).trans e6)
  exact den_rt (k := k) (s1 := (⟨[.val (.int 0), .val (.tuple [a, b]), .un], k⟩ : S)) (sq_nx (go_f e0) (sq_rt ((sIf_t t).trans rfl)))
theorem len_ne (x : List D) (h : x.length ≤ 1000) (hn : x.length ≠ 2) (k : Int × Int) : D_fits_ground [.int 0, .tuple x] k = .ok (.bool false) k ∧ D__law_is_number [.int 0, .tuple x] k = .ok (.bool false) k := by
  constructor
  · have e0 : tV (e2 neD (eVar 0) (eC (.int 0))) (v2 (.int 0) (.tuple x) k) = .ok false (v2 (.int 0) (.tuple x) k) := rfl
    have e1 : eCall none D_is_tuple_of (aCons (eVar 1) (aCons (eC (.int 2)) (aCons (eC (.int 2)) aNil))) (v2 (.int 0) (.tuple x) k) = .ok (.bool false) (v2 (.int 0) (.tuple x) k) := by
      refine eCall_at (ds := [.tuple x, .int 2, .int 2]) rfl ?_
      rw [is_tuple]
      show Rk.ok (.bool (decide ((2 : Int) ≤ (x.length : Int)) && decide ((x.length : Int) ≤ 2))) k = _
      have : (decide ((2 : Int) ≤ (x.length : Int)) && decide ((x.length : Int) ≤ 2)) = false := by
        rw [Bool.and_eq_false_iff, decide_eq_false_iff_not, decide_eq_false_iff_not]
        omega
      rw [this]
    exact den_rt (k := k) (s1 := v2 (.int 0) (.tuple x) k) (sq_nx (go_f e0) (sq_rt ((sIf_t (tOr_t (tNot_eq (tV_eq e1)))).trans rfl)))
  · have e0 : tV (e2 neD (eVar 0) (eC (.int 0))) (⟨[.val (.int 0), .val (.tuple x), .un], k⟩ : S) = .ok false (⟨[.val (.int 0), .val (.tuple x), .un], k⟩ : S) := rfl
    have e1 : tV (e2 neD (pkF 1 (PL.ret ()) fun d _ => lenD [d]) (eC (.int 2))) (⟨[.val (.int 0), .val (.tuple x), .un], k⟩ : S) = .ok true (⟨[.val (.int 0), .val (.tuple x), .un], k⟩ : S) := by
      refine tV_at (e2_at (x := .int (x.length : Nat)) (y := .int 2) (pk_at (a := ()) rfl rfl rfl) rfl ?_)
      rw [ne_int, decide_eq_false (by omega)]; rfl
    have t : tOr (tV (e2 neD (eCall none D__law_sort (aCons (eVar 1) aNil)) (eC (.int 4)))) (tOr (tV (e2 neD (pkF 1 (PL.ret ()) fun d _ => lenD [d]) (eC (.int 2)))) (tV (e2 neD (frz (eLc (bnd (eVar 1) itD) (gN 2) (tV (e2 neD (eCall none D__law_sort (aCons (eVar 2) aNil)) (eC (.int 2)))) (eC (.int 1)) [2])) (eA lstD aNil)))) (⟨[.val (.int 0), .val (.tuple x), .un], k⟩ : S) = .ok true (⟨[.val (.int 0), .val (.tuple x), .un], k⟩ : S) := (tOr_f rfl).trans (tOr_t e1)
    exact den_rt (k := k) (s1 := (⟨[.val (.int 0), .val (.tuple x), .un], k⟩ : S)) (sq_nx (go_f e0) (sq_rt ((sIf_t t).trans rfl)))
theorem bn_small {b : Int} (h0 : -1000 ≤ b) (h1 : b ≤ 1000) : b.natAbs < BN := by
  have h2 : 1001 < BN := by unfold BN; decide +kernel
  omega
theorem nb_zero (x : D) (h : P1 x) (k : Int × Int) : D_fits_ground [.int 0, x] k = .ok (.bool (nZ x)) k ∧ D__law_is_number [.int 0, x] k = .ok (.bool (nZ x)) k := by
  match x, h with
  | .tuple [], h => exact len_ne [] (by decide) (by decide) k
  | .tuple [a], h =>
    rw [nz1]; exact len_ne _ (by simp) (by simp) k
  | .tuple (a :: b :: c :: r), h =>
    have hl := (h.1 _ rfl).1
    rw [nz3]; exact len_ne _ hl (by simp) k
  | .tuple [a, b], h =>
    have hP := (h.1 _ rfl).2
    by_cases hi : (∃ v, a = .int v) ∧ ∃ w, b = .int w
    · obtain ⟨⟨v, rfl⟩, w, rfl⟩ := hi
      have hv := hP (.int v) (by simp) v rfl
      have hw := hP (.int w) (by simp) w rfl
      have e1 : nZ (.tuple [.int v, .int w]) = (decide (0 < w) && decide (Nat.gcd v.natAbs w.natAbs = 1)) := rfl
      refine ⟨?_, by rw [e1]; exact z_isnum v w (bn_small hw.1 hw.2) k⟩
      by_cases hw0 : 0 < w
      · by_cases hg : Nat.gcd v.natAbs w.natAbs = 1
        · rw [e1, decide_eq_true hw0, decide_eq_true hg]
          exact z_fits (by omega) (by show _ ≤ (10000000000000000000000000000000000000000 : Int); omega) (by show -(10000000000000000000000000000000000000000 : Int) ≤ _; omega) (by show _ ≤ (10000000000000000000000000000000000000000 : Int); omega) hg k
        · rw [e1, decide_eq_true hw0, decide_eq_false hg]
          have f0 : tV (e2 neD (eVar 0) (eC (.int 0))) (v2 (.int 0) (fr v w) k) = .ok false (v2 (.int 0) (fr v w) k) := rfl
          have f1 : eCall none D_is_tuple_of (aCons (eVar 1) (aCons (eC (.int 2)) (aCons (eC (.int 2)) aNil))) (v2 (.int 0) (fr v w) k) = .ok (.bool true) (v2 (.int 0) (fr v w) k) := eCall_at (ds := [fr v w, .int 2, .int 2]) rfl (is_tuple _ 2 2 k)
          have f2' := f_w1 (.int v) (.int w) k
          have f3 := f_w2 (.int v) (.int w) k
          rw [wh_big hv.1 hv.2] at f2'
          rw [wh_pos hw.2, decide_eq_true hw0] at f3
          have f4 : e2 eqD (eA gcdD (aCons (pkF 1 (eC (.int 0)) idxD) (aCons (pkF 1 (eC (.int 1)) idxD) aNil))) (eC (.int 1)) (v2 (.int 0) (fr v w) k) = .ok (.bool false) (v2 (.int 0) (fr v w) k) := by
            refine e2_at (x := .int ((Nat.gcd v.natAbs w.natAbs : Nat) : Int)) (y := .int 1) rfl rfl ?_
            rw [eq_int, decide_eq_false (by omega)]
          exact den_rt (k := k) (s1 := v2 (.int 0) (fr v w) k) (sq_nx (go_f f0) (sq_nx (go_f ((tOr_f (tNot_eq (tV_eq f1))).trans ((tOr_f (tNot_eq (tV_eq f2'))).trans (tNot_eq (tV_eq f3))))) (sRet_eq f4)))
      · rw [e1, decide_eq_false hw0, Bool.false_and]
        have f2' := f_w1 (.int v) (.int w) k
        have f3 := f_w2 (.int v) (.int w) k
        rw [wh_big hv.1 hv.2] at f2'
        rw [wh_pos hw.2, decide_eq_false hw0] at f3
        exact f_pair _ _ k (r := .nx) (q := v2 (.int 0) (.int 0) k) ((tOr_f (tNot_eq (tV_eq f2'))).trans (tNot_eq (tV_eq f3)))
    · rw [nz2 a b hi]
      refine ⟨?_, n_pair a b hi k⟩
      have f2' := f_w1 a b k
      have f3 := f_w2 a b k
      by_cases ha : ∃ v, a = .int v
      · have hb : ∀ w, b ≠ .int w := fun w z => hi ⟨ha, w, z⟩
        rw [wh_other hb] at f3
        cases q : wh (-10000000000000000000000000000000000000000) 10000000000000000000000000000000000000000 a with
        | true =>
          rw [q] at f2'
          exact f_pair _ _ k (r := .nx) (q := v2 (.int 0) (.int 0) k) ((tOr_f (tNot_eq (tV_eq f2'))).trans (tNot_eq (tV_eq f3)))
        | false =>
          rw [q] at f2'
          exact f_pair _ _ k (r := .nx) (q := v2 (.int 0) (.int 0) k) (tOr_t (tNot_eq (tV_eq f2')))
      · rw [wh_other fun v z => ha ⟨v, z⟩] at f2'
        exact f_pair _ _ k (r := .nx) (q := v2 (.int 0) (.int 0) k) (tOr_t (tNot_eq (tV_eq f2')))
  | .none, h => exact ⟨rfl, rfl⟩
  | .bool _, h => exact ⟨rfl, rfl⟩
  | .int _, h => exact ⟨rfl, rfl⟩
  | .str _, h => exact ⟨rfl, rfl⟩
  | .list _, h => exact ⟨rfl, rfl⟩
  | .dict _, h => exact ⟨rfl, rfl⟩
theorem nb_p {g : Int} (hg : g ∈ PR) (x : D) (k : Int × Int) : D_fits_ground [.int g, x] k = .ok (.bool (nB g x)) k ∧ D__law_is_number [.int g, x] k = .ok (.bool (nB g x)) k := by
  have e0 : nB g x = wh 0 (g - 1) x := if_neg (by have := pr_b hg; omega)
  rw [e0]
  constructor
  · have e1 : eCall none D_is_whole (aCons (eVar 1) (aCons (eC (.int 0)) (aCons (e2 subD (eVar 0) (eC (.int 1))) aNil))) (v2 (.int g) x k) = .ok (.bool (wh 0 (g - 1) x)) (v2 (.int g) x k) := eCall_at (ds := [x, .int 0, .int (g - 1)]) rfl (is_whole _ _ _ k)
    exact den_rt (k := k) (s1 := v2 (.int g) x k) (sq_rt ((sIf_t (ne0 hg _ rfl)).trans (sRet_eq e1)))
  · have e1 : eCall none D__law_whole (aCons (eVar 1) (aCons (eC (.int 0)) (aCons (e2 subD (eVar 0) (eC (.int 1))) aNil))) (⟨[.val (.int g), .val x, .un], k⟩ : S) = .ok (.bool (wh 0 (g - 1) x)) (⟨[.val (.int g), .val x, .un], k⟩ : S) := eCall_at (ds := [x, .int 0, .int (g - 1)]) rfl (law_whole _ _ _ k)
    exact den_rt (k := k) (s1 := (⟨[.val (.int g), .val x, .un], k⟩ : S)) (sq_rt ((sIf_t (ne0 hg _ rfl)).trans (sRet_eq e1)))
theorem nb_ok {g : Int} (hg : g = 0 ∨ g ∈ PR) (x : D) (h : P1 x) (k : Int × Int) : D_fits_ground [.int g, x] k = .ok (.bool (nB g x)) k ∧ D__law_is_number [.int g, x] k = .ok (.bool (nB g x)) k := by
  rcases hg with rfl | hg
  · rw [show nB 0 x = nZ x from if_pos rfl]
    exact nb_zero x h k
  · exact nb_p hg x k
end K90
set_option maxHeartbeats 2000000
namespace K90
open PySem PySem.Spec PL LL GD SR Lean.Grind
def rB (g : Int) : D → Bool
  | .tuple l => (decide ((3 : Int) ≤ (l.length : Int)) && decide ((l.length : Int) ≤ 16)) && l.all (nB g)
  | _ => false
abbrev f3 (g : Int) (e : D) (a : Sl) (k : Int × Int) : S := ⟨[.val (.int g), .val e, a], k⟩
theorem tup_at (g : Int) (e : D) (k : Int × Int) : eCall none D_is_tuple_of (aCons (eVar 1) (aCons (eC (.int 3)) (aCons (eC (.int 16)) aNil))) (f3 g e .un k) = .ok (.bool (match e with | .tuple l => decide ((3 : Int) ≤ (l.length : Int)) && decide ((l.length : Int) ≤ 16) | _ => false)) (f3 g e .un k) := eCall_at (ds := [e, .int 3, .int 16]) rfl (is_tuple _ _ _ k)
theorem fits_any {g : Int} (hg : g = 0 ∨ g ∈ PR) (e : D) (h : SmP P1 e) (k : Int × Int) : D_fits_power_row [.int g, e] k = .ok (.bool (rB g e)) k := by
  have e1 := tup_at g e k
  cases e with
  | tuple l =>
    have hl := h l rfl
    show _ = Rk.ok (.bool ((decide ((3 : Int) ≤ (l.length : Int)) && decide ((l.length : Int) ≤ 16)) && l.all (nB g))) k
    dsimp only at e1
    cases q : (decide ((3 : Int) ≤ (l.length : Int)) && decide ((l.length : Int) ≤ 16)) with
    | false =>
      rw [q] at e1
      exact den_rt (k := k) (s1 := f3 g (.tuple l) .un k) (sRet_eq (eAnd_f e1))
    | true =>
      rw [q] at e1
      have src : bnd (eVar 1) itD (f3 g (.tuple l) .un k) = .ok (l.map id) (f3 g (.tuple l) .un k) := by rw [List.map_id]; rfl
      have z := eLc_of (α := D) (e := id) (fun x => .bool (nB g x)) (asg := gN 2) (elt := eCall none D_fits_ground (aCons (eVar 0) (aCons (eVar 2) aNil))) (vs := [2]) (r0 := (f3 g (.tuple l) .un k).r) (r2 := (f3 g (.tuple l) .un k).r) (l := l) src (by rw [GD.lim_eq]; omega) rfl rfl fun x hx =>
        ⟨(f3 g (.tuple l) (.val x) k).r, asg_eq gN_eq (eCall_at (ds := [.int g, x]) (s := f3 g (.tuple l) (.val x) k) rfl (nb_ok hg x (hl.2 x hx) k).1), rfl⟩
      have e2' : (l.map fun x => PyData.bool (nB g x)) = (l.map (nB g)).map PyData.bool := by rw [List.map_map]; rfl
      rw [e2'] at z
      have e3 := eA_at (f := allD) (aCons_at (frz_eq z) (rfl : aNil (f3 g (.tuple l) .un k) = .ok [] _)) (all_bools _)
      rw [List.all_map] at e3
      exact den_rt (k := k) (s1 := f3 g (.tuple l) .un k) (sRet_eq ((eAnd_t e1).trans e3))
  | _ => exact den_rt (k := k) (sRet_eq (eAnd_f e1))
theorem is_row_any {g : Int} (hg : g = 0 ∨ g ∈ PR) (e : D) (h : SmP P1 e) (k : Int × Int) : D_is_power_row [.int g, e] k = .ok (.bool (rB g e)) k := by
  have e1 : eCall none D_need_ground (aCons (eVar 0) aNil) (v2 (.int g) e k) = .ok .none (v2 (.int g) e k) := eCall_at (ds := [.int g]) rfl (need_ground g k hg)
  have e2' : eCall none D_fits_power_row (aCons (eVar 0) (aCons (eVar 1) aNil)) (v2 (.int g) e k) = .ok (.bool (rB g e)) (v2 (.int g) e k) := eCall_at (ds := [.int g, e]) rfl (fits_any hg e h k)
  exact den_rt (k := k) (s1 := v2 (.int g) e k) (sq_nx (sExp_eq e1) (sRet_eq e2'))
/-- the law's: a tuple whose elements are told -/
theorem law_is_tup {g : Int} (l : List D) (hl : l.length ≤ 1000) (nb : D → Bool) (k : Int × Int) (h : ∀ x ∈ l, D__law_is_number [.int g, x] k = .ok (.bool (nb x)) k) : D__law_is_row [.int g, .tuple l] k = .ok (.bool ((decide ((3 : Int) ≤ (l.length : Int)) && decide ((l.length : Int) ≤ 16)) && l.all nb)) k := by
  have t0 : e2 eqD (eCall none D__law_sort (aCons (eVar 1) aNil)) (eC (.int 4)) (f3 g (.tuple l) .un k) = .ok (.bool true) (f3 g (.tuple l) .un k) := rfl
  have f1 : pkF 1 (PL.ret ()) (fun d _ => lenD [d]) (f3 g (.tuple l) .un k) = .ok (.int (l.length : Nat)) (f3 g (.tuple l) .un k) := rfl
  have t1 : eChain leD leD (eC (.int 3)) (pkF 1 (PL.ret ()) fun d _ => lenD [d]) (eC (.int 16)) (f3 g (.tuple l) .un k) = .ok (.bool (decide ((3 : Int) ≤ (l.length : Int)) && decide ((l.length : Int) ≤ 16))) (f3 g (.tuple l) .un k) := eChain_eq (x := .int 3) (z := .int 16) rfl f1 rfl rfl rfl
  cases q : (decide ((3 : Int) ≤ (l.length : Int)) && decide ((l.length : Int) ≤ 16)) with
  | false =>
    rw [q] at t1
    exact den_rt (k := k) (s1 := f3 g (.tuple l) .un k) (sRet_eq ((eAnd_t t0).trans (eAnd_f t1)))
  | true =>
    rw [q] at t1
    have src : bnd (eVar 1) itD (f3 g (.tuple l) .un k) = .ok (l.map id) (f3 g (.tuple l) .un k) := by rw [List.map_id]; rfl
    have z := eLc_pick (α := D) (e := id) (p := fun x => !nb x) (fun _ => .int 1) (asg := gN 2) (tst := tNot (tV (eCall none D__law_is_number (aCons (eVar 0) (aCons (eVar 2) aNil))))) (elt := eC (.int 1)) (vs := [2]) (r0 := (f3 g (.tuple l) .un k).r) (r2 := (f3 g (.tuple l) .un k).r) (l := l) src (by rw [GD.lim_eq]; omega) rfl rfl fun x hx =>
      ⟨(f3 g (.tuple l) (.val x) k).r, asg_eq gN_eq (tNot_eq (tV_at (eCall_at (ds := [.int g, x]) (s := f3 g (.tuple l) (.val x) k) rfl (h x hx)))), fun _ => ⟨_, rfl, rfl⟩, fun _ => rfl⟩
    have e5 : ((l.filter fun x => !nb x).map fun _ => PyData.int 1) = zs ((l.filter fun x => !nb x).map fun _ => (1 : Int)) := by unfold zs; rw [List.map_map]; rfl
    rw [e5] at z
    have e6 : e2 eqD (frz (eLc (bnd (eVar 1) itD) (gN 2) (tNot (tV (eCall none D__law_is_number (aCons (eVar 0) (aCons (eVar 2) aNil))))) (eC (.int 1)) [2])) (eA lstD aNil) (f3 g (.tuple l) .un k) = .ok (.bool (l.all nb)) (f3 g (.tuple l) .un k) := by
      refine e2_at (y := .list (zs [])) (frz_eq z) rfl ?_
      rw [eq_lst]
      refine congrArg (fun b => some (PyData.bool b)) ?_
      rw [Bool.eq_iff_iff, decide_eq_true_eq]
      exact nots_nil _
    rw [Bool.true_and]
    exact den_rt (k := k) (s1 := f3 g (.tuple l) .un k) (sRet_eq ((eAnd_t t0).trans ((eAnd_t t1).trans e6)))
theorem law_is_any {g : Int} (hg : g = 0 ∨ g ∈ PR) (e : D) (h : SmP P1 e) (k : Int × Int) : D__law_is_row [.int g, e] k = .ok (.bool (rB g e)) k := by
  cases e with
  | tuple l =>
    have hl := h l rfl
    exact law_is_tup l hl.1 (nB g) k fun x hx => (nb_ok hg x (hl.2 x hx) k).2
  | _ => rfl
section
variable {α : Type} [CommRing α] [DecidableEq α] {g : Int} (G : Gr α g)
theorem law_is_tr {N : Nat} {f : Nat → α} (h3 : 3 ≤ N) (h16 : N ≤ 16) (hw : ∀ i, i < N → G.Wt 300 1000 (f i)) (k : Int × Int) : D__law_is_row [.int g, tr G N f] k = .ok (.bool true) k := by
  have e := law_is_tup (g := g) (tl G N f) (by rw [tl_len]; omega) (fun _ => true) k fun x hx => by
    obtain ⟨i, hi, rfl⟩ := List.mem_map.mp hx
    exact G.isnum (hw i (List.mem_range.mp hi)) k
  rw [tl_len, decide_eq_true (by omega), decide_eq_true (by omega)] at e
  have : ((tl G N f).all fun _ => true) = true := List.all_eq_true.mpr fun _ _ => rfl
  rw [this] at e
  exact e
/-! ### shapes and likeness of rows -/
theorem em_lay (a : α) : PyData.canLayAll0 [G.em a] = true ∧ PyData.depthAll [G.em a] ≤ 1 := by
  rcases G.form (a := a) with ⟨v, e, _⟩ | ⟨x, y, e⟩
  · rw [e]
    exact ⟨rfl, by show 0 ≤ 1; decide⟩
  · rw [e]
    exact ⟨rfl, by show 1 ≤ 1; decide⟩
theorem lay_cons (x : D) (l : List D) : PyData.canLayAll0 (x :: l) = (PyData.canLayAll0 [x] && PyData.canLayAll0 l) := by
  have h0 : PyData.canLayAll0 [] = true := by rw [PyData.canLayAll0]
  rw [PyData.canLayAll0, PyData.canLayAll0, h0, Bool.and_true]
theorem dep_cons (x : D) (l : List D) : PyData.depthAll (x :: l) = max (PyData.depthAll [x]) (PyData.depthAll l) := by
  have h0 : PyData.depthAll [] = 0 := by rw [PyData.depthAll]
  rw [PyData.depthAll, PyData.depthAll, h0, Nat.max_zero]
theorem lay_all : ∀ l : List D, (∀ x ∈ l, PyData.canLayAll0 [x] = true ∧ PyData.depthAll [x] ≤ 1) → PyData.canLayAll0 l = true ∧ PyData.depthAll l ≤ 1
  | [], _ => ⟨rfl, by show 0 ≤ 1; decide⟩
  | x :: l, h => by
    have h1 := h x List.mem_cons_self
    have h2 := lay_all l fun y hy => h y (List.mem_cons_of_mem _ hy)
    rw [lay_cons, dep_cons, h1.1, h2.1]
    exact ⟨rfl, by omega⟩
theorem sh_tr (N : Nat) (f : Nat → α) : shD (tr G N f) = true := by
  have h := lay_all (tl G N f) fun x hx => by
    obtain ⟨i, _, rfl⟩ := List.mem_map.mp hx
    exact em_lay G (f i)
  unfold shD SeqAt.shaped
  rw [Bool.and_eq_true]
  refine ⟨h.1, _root_.decide_eq_true ?_⟩
  show PyData.depthAll (tl G N f) + 1 ≤ 64
  omega
theorem eq_same (d : D) (h : shD d = true) : eqD d d = some (.bool true) := by
  have e : PyData.eqv d d = true := by
    have h2 := h
    unfold shD SeqAt.shaped at h2
    rw [Bool.and_eq_true] at h2
    exact PySem.SeqAt.eqv_refl d h2.1
  unfold eqD
  rw [h, if_pos (show (true && true) = true from rfl), e]
theorem ne_same (d : D) (h : shD d = true) : neD d d = some (.bool false) := by
  have e : PyData.eqv d d = true := by
    have h2 := h
    unfold shD SeqAt.shaped at h2
    rw [Bool.and_eq_true] at h2
    exact PySem.SeqAt.eqv_refl d h2.1
  unfold neD
  rw [h, if_pos (show (true && true) = true from rfl), e]
  rfl
theorem like_em (a : α) (n : Nat) (k : Int × Int) : L__law_like (n + 2) [G.em a, G.em a] k = .ok (.bool true) k := by
  rcases G.form (a := a) with ⟨v, e, _⟩ | ⟨x, y, e⟩
  · rw [e]
    exact like_int (n + 1) v k
  · rw [e]
    exact like_zs n [x, y] k (by show 2 ≤ lim; decide)
theorem like_tr (N : Nat) (hN : N ≤ 16) (f : Nat → α) (n : Nat) (k : Int × Int) : L__law_like (n + 3) [tr G N f, tr G N f] k = .ok (.bool true) k := like_tup (n + 2) (tl G N f) k (by rw [tl_len, GD.lim_eq]; omega) fun e he => by
  obtain ⟨i, _, rfl⟩ := List.mem_map.mp he
  exact like_em G (f i) n k
end
end K90
set_option maxHeartbeats 2000000
namespace K90
open PySem PySem.Spec PL LL GD SR Lean.Grind
/-! ### rows drawn -/
theorem cut_b (ds : List D) (b : Nat) (h : b ≤ ds.length) : cutD ds (some (b : Int)) none = ds.drop b := by
  unfold cutD
  have e1 : HT.sIx ds.length 0 (some (b : Int)) = min b ds.length := HT.sIx_nat ds.length 0 b
  have e2 : HT.sIx ds.length ds.length none = ds.length := rfl
  rw [e1, e2, show min b ds.length = b by omega]
  exact List.take_of_length_le (by simp)
theorem roll_at {q : S} {i : Nat} {m : M (List D)} {n : Int} (hc : hasCup (some i) q = true) (hm : m q = .ok [.int n] q) (hk : CupOk q.c) (h0 : 0 < n) (h1 : n ≤ 2 ^ 62) :
    ∃ r k', eCall (some i) D__law_roll m q = .ok (.int r) { q with c := k' } ∧ 0 ≤ r ∧ r < n ∧ CupOk k' := by
  obtain ⟨r, k', e, a, b, c⟩ := roll hk h0 h1
  exact ⟨r, k', eCallC_eq hc hm e, a, b, c⟩
abbrev rb_ (g : Int) (m b : D) (L : List D) (a5 : Sl) (k : Int × Int) : S := ⟨[.cup, .val (.int g), .val m, .val b, .own (.lst L), a5], k⟩
abbrev Db : M Fl := (sIf (tV (e2 neD (eVar 1) (eC (.int 0)))) (sApp 4 (eCall (some 0) D__law_roll (aCons (eVar 1) aNil))) (sApp 4 (eCall none D__law_plain (aCons (e2 subD (eCall (some 0) D__law_roll (aCons (eC (.int 7)) aNil)) (eC (.int 3))) (aCons (e2 addD (eC (.int 1)) (eCall (some 0) D__law_roll (aCons (eC (.int 3)) aNil))) aNil)))))
section
variable {α : Type} [CommRing α] [DecidableEq α] {g : Int} (G : Gr α g)
/-- a number is drawn -/
def Draws : Prop := ∀ (m b : D) (L : List D) (a5 : Sl) (k : Int × Int), CupOk k → L.length ≤ 100 → ∃ a k', Db (rb_ g m b L a5 k) = .ok .nx (rb_ g m b (L ++ [G.em a]) a5 k') ∧ G.Sl a ∧ CupOk k'
end
theorem draws_p {p : Nat} [NeZero p] (hp : (p : Int) ∈ PR) : Draws (grP hp) := fun m b L a5 k hk hL => by
  have hb := pp_b hp
  obtain ⟨r, k', e, r0, r1, hk'⟩ := roll_at (q := rb_ (p : Int) m b L a5 k) (i := 0) (m := aCons (eVar 1) aNil) (n := (p : Int)) rfl rfl hk (by omega) (by omega)
  refine ⟨⟨r.toNat, by omega⟩, k', ?_, trivial, hk'⟩
  have t : tV (e2 neD (eVar 1) (eC (.int 0))) (rb_ (p : Int) m b L a5 k) = .ok true (rb_ (p : Int) m b L a5 k) := by
    refine tV_at (e2_at (x := .int (p : Nat)) (y := .int 0) rfl rfl ?_)
    rw [ne_int, _root_.decide_eq_false (by omega)]; rfl
  have em : (grP hp).em (⟨r.toNat, by omega⟩ : _root_.Fin p) = .int r := by
    show PyData.int ((r.toNat : Nat) : Int) = _
    exact congrArg PyData.int (by omega)
  rw [em]
  exact (sIf_t t).trans (sApp_eq (i := 4) (ds0 := L) (ds := L) rfl e rfl (by rw [GD.lim_eq]; omega))
theorem draws_z : Draws grZ := fun m b L a5 k hk hL => by
  obtain ⟨r, k1, e1, r0, r1, hk1⟩ := roll_at (q := rb_ 0 m b L a5 k) (i := 0) (m := aCons (eC (.int 7)) aNil) (n := 7) rfl rfl hk (by decide) (by decide)
  obtain ⟨u, k2, e2', u0, u1, hk2⟩ := roll_at (q := rb_ 0 m b L a5 k1) (i := 0) (m := aCons (eC (.int 3)) aNil) (n := 3) rfl rfl hk1 (by decide) (by decide)
  have t : tV (e2 neD (eVar 1) (eC (.int 0))) (rb_ 0 m b L a5 k) = .ok false (rb_ 0 m b L a5 k) := rfl
  have f1 := e2_eq (f := subD) (mb := eC (.int 3)) (y := .int 3) (r := .int (r - 3)) e1 rfl rfl
  have f2' := e2_eq (f := addD) (ma := eC (.int 1)) (x := .int 1) (s := rb_ 0 m b L a5 k1) (r := .int (1 + u)) rfl e2' rfl
  have hB : (1 + u).natAbs < BN := bn_small (by omega) (by omega)
  have f3 := eCall_eq (den := D__law_plain) (k := k2) (aCons_eq f1 (aCons_eq (q := aNil) (ds := []) f2' rfl)) (plain (t := r - 3) (b := 1 + u) (by omega) hB k2)
  have hd : (1 + u).toNat ≠ 0 := by omega
  obtain ⟨q, hq⟩ : ∃ q, Rat.normalize (r - 3) (1 + u).toNat hd = q := ⟨_, rfl⟩
  have h1 : q.num = (r - 3) / (((r - 3).natAbs.gcd (1 + u).toNat : Nat) : Int) := by rw [← hq, Rat.normalize_eq]
  have h2 : q.den = (1 + u).toNat / (r - 3).natAbs.gcd (1 + u).toNat := by rw [← hq, Rat.normalize_eq]
  have h3 := low_fr hd h1 h2
  have h4 : (((1 + u).toNat : Nat) : Int) = 1 + u := by omega
  rw [h4] at h3
  have hz : rt (r - 3) (1 + u) = q.num ∧ rb (r - 3) (1 + u) = (q.den : Int) := by
    unfold ez at h3
    injection h3 with h3
    injection h3 with h5 h6
    injection h6 with h6 h7
    injection h5 with h5
    injection h6 with h6
    exact ⟨h5, h6⟩
  have l1 := rt_le (t := r - 3) (b := 1 + u) (by omega)
  have l2 := rb_le (t := r - 3) (b := 1 + u) (by omega)
  rw [hz.1] at l1
  rw [hz.2] at l2
  refine ⟨q, k2, ?_, ⟨by omega, by omega⟩, hk2⟩
  rw [h3] at f3
  exact (sIf_f t).trans (sApp_eq (i := 4) (ds0 := L) (ds := L) rfl f3 rfl (by rw [GD.lim_eq]; omega))
section
variable {α : Type} [CommRing α] [DecidableEq α] {g : Int} (G : Gr α g)
theorem law_row (W : Draws G) {N b : Nat} (h3 : 3 ≤ N) (h8 : N ≤ 8) (hb : b ≤ 1) (k : Int × Int) (hk : CupOk k) : ∃ f k', D__law_row [.int g, .int (N : Nat), .int (b : Nat)] k = .ok (tr G N f) k' ∧ CupOk k' ∧ Dr G N f ∧ ∀ i, i < b → f i = 0 := by
  have a0 : (sOwn 4 (fLst aNil)) (⟨[.cup, .val (.int g), .val (.int (N : Nat)), .val (.int (b : Nat)), .un, .un], k⟩ : S) = .ok .nx (rb_ g (.int (N : Nat)) (.int (b : Nat)) [] .un k) := rfl
  have src : bnd (aCons (eVar 2) aNil) rng1 (rb_ g (.int (N : Nat)) (.int (b : Nat)) [] .un k) = .ok (rngL 0 N) (rb_ g (.int (N : Nat)) (.int (b : Nat)) [] .un k) := by
    have e : aCons (eVar 2) aNil (rb_ g (.int (N : Nat)) (.int (b : Nat)) [] .un k) = .ok [.int (N : Nat)] (rb_ g (.int (N : Nat)) (.int (b : Nat)) [] .un k) := rfl
    exact src_eq e (rng1_nat (n := N) (by omega) _)
  obtain ⟨q, e, a5, k1, a, rfl, hk1, ha⟩ := forL_all (asg := gN 5) (body := Db) (J := fun j q => ∃ a5 k1 a, q = rb_ g (.int (N : Nat)) (.int (b : Nat)) (tl G j a) a5 k1 ∧ CupOk k1 ∧ ∀ i, i < j → G.Sl (a i)) (rngL 0 N) 0 (rb_ g (.int (N : Nat)) (.int (b : Nat)) [] .un k) ⟨_, _, fun _ => 0, rfl, hk, fun i hi => by omega⟩ fun j x q hx hq => by
    rw [Nat.zero_add] at hq ⊢
    obtain ⟨a5, k1, a, rfl, hk1, ha⟩ := hq
    obtain ⟨hj, rfl⟩ := rng_mem hx
    obtain ⟨y, k2, e, hy, hk2⟩ := W (.int (N : Nat)) (.int (b : Nat)) (tl G j a) (.val (.int (j : Nat))) k1 hk1 (by rw [tl_len]; omega)
    refine ⟨_, asg_eq gN_eq e, .val (.int (j : Nat)), k2, fun i => if i = j then y else a i, ?_, hk2, fun i hi => ?_⟩
    · have e2' : tl G j a ++ [G.em y] = tl G (j + 1) fun i => if i = j then y else a i := by
        rw [tl_succ]
        have e3 : tl G j a = tl G j fun i => if i = j then y else a i := tl_congr G fun i hi => by
          show a i = if i = j then y else a i
          rw [if_neg (by omega)]
        rw [e3, if_pos rfl]
      rw [e2']
    · show G.Sl (if i = j then y else a i)
      split
      · exact hy
      · exact ha i (by omega)
  rw [Nat.zero_add, rng_len] at e ha
  have a1 := sFor_eq src e
  refine ⟨fun i => if i < b then 0 else a i, k1, ?_, hk1, ⟨h3, h8, fun i hi => ?_⟩, fun i hi => if_pos hi⟩
  · have g1 : eA tupD (aCons (eCall none D__law_whole_of (aCons (eVar 1) (aCons (eC (.int 0)) aNil))) aNil) (rb_ g (.int (N : Nat)) (.int (b : Nat)) (tl G N a) a5 k1) = .ok (.tuple [G.em 0]) (rb_ g (.int (N : Nat)) (.int (b : Nat)) (tl G N a) a5 k1) := eA_at (aCons_at (eCall_at (ds := [.int g, .int 0]) rfl (G.wh0 k1)) rfl) rfl
    have g2 := e2_at (f := mulD) (mb := eVar 3) (y := .int (b : Nat)) g1 rfl (mul_fill G (N := b) (by omega) 0)
    have g3 : pkF 4 (two (bnd (eVar 3) asI) (PL.ret none)) (fun d y => sliD y.1 y.2 d) (rb_ g (.int (N : Nat)) (.int (b : Nat)) (tl G N a) a5 k1) = .ok (.list ((tl G N a).drop b)) (rb_ g (.int (N : Nat)) (.int (b : Nat)) (tl G N a) a5 k1) := by
      refine pk_at (a := (some (b : Int), none)) rfl rfl ?_
      show some (PyData.list (cutD (tl G N a) (some (b : Int)) none)) = _
      rw [cut_b _ _ (by rw [tl_len]; omega)]
    have g4 := eA_at (f := tupOfD) (r := .tuple ((tl G N a).drop b)) (aCons_at g3 (rfl : aNil (rb_ g (.int (N : Nat)) (.int (b : Nat)) (tl G N a) a5 k1) = .ok [] _)) rfl
    have g5 := e2_at (f := addD) g2 g4 (add_tup (by rw [tl_len, List.length_drop, tl_len]; omega))
    have g6 : tl G b (fun _ => 0) ++ (tl G N a).drop b = tl G N fun i => if i < b then 0 else a i := by
      refine List.ext_getElem? fun i => ?_
      by_cases hi : i < N
      · rw [tl_get G _ hi]
        by_cases hib : i < b
        · rw [List.getElem?_append_left (by rw [tl_len]; exact hib), tl_get G _ hib, if_pos hib]
        · rw [List.getElem?_append_right (by rw [tl_len]; omega), tl_len, List.getElem?_drop, show b + (i - b) = i by omega, tl_get G _ hi, if_neg hib]
      · rw [List.getElem?_eq_none (by rw [List.length_append, tl_len, List.length_drop, tl_len]; omega), List.getElem?_eq_none (by rw [tl_len]; omega)]
    rw [g6] at g5
    exact den_rt (k := k) (sq_nx a0 (sq_nx a1 (sRet_eq g5)))
  · show G.Sl (if i < b then 0 else a i)
    split
    · exact G.sl0
    · exact ha i hi
end
end K90
set_option maxHeartbeats 2000000
namespace K90
open PySem PySem.Spec PL LL GD SR Lean.Grind
/-! ### rows drawn -/
/-! ### products, rows put into others, reciprocals, rows that turn, judged -/
theorem forL_any {asg : D → M Unit} {body : M Fl} {J : Nat → S → Prop} : ∀ (xs : List D) (i : Nat) (s : S), J i s →
    (∀ j x s, xs[j]? = some x → J (i + j) s → ∃ f s', (f = Fl.nx ∨ f = Fl.ct) ∧ bnd (asg x) (fun _ => body) s = .ok f s' ∧ J (i + j + 1) s') → ∃ s', forL asg body xs s = .ok .nx s' ∧ J (i + xs.length) s'
  | [], i, s, hJ, _ => ⟨s, rfl, hJ⟩
  | x :: xs, i, s, hJ, h => by
    obtain ⟨f, s1, hf, e, hJ1⟩ := h 0 x s rfl hJ
    obtain ⟨s2, e2, hJ2⟩ := forL_any xs (i + 1) s1 hJ1 fun j y t hy ht => by
      have z := h (j + 1) y t (by simpa using hy) (by rw [show i + (j + 1) = i + 1 + j by omega]; exact ht)
      rw [show i + (j + 1) + 1 = i + 1 + j + 1 by omega] at z
      exact z
    refine ⟨s2, ?_, by rw [List.length_cons, show i + (xs.length + 1) = i + 1 + xs.length by omega]; exact hJ2⟩
    unfold forL
    unfold bnd at e
    cases q : asg x s with
    | exc n s => rw [q] at e; cases e
    | bad => rw [q] at e; cases e
    | ok u s' =>
      rw [q] at e
      dsimp only at e
      rw [bnd_eq q, bnd_eq e]
      rcases hf with rfl | rfl <;> exact e2
section
variable {α : Type} [CommRing α] [DecidableEq α] {g : Int} (G : Gr α g)
/-- what is drawn for a turn -/
structure Dn3 (N : Nat) (r s i : Nat → α) : Prop where
  dr : Dr G N r
  ds : Dr G N s
  di : Dr G N i
  i0 : i 0 = 0
abbrev rq (N : Nat) (r s i : Nat → α) (a6 a7 a8 a9 a10 a11 : Sl) (k : Int × Int) : S := ⟨[.cup, .val (.int g), .val (.int (N : Nat)), .val (tr G N r), .val (tr G N s), .val (tr G N i), a6, a7, a8, a9, a10, a11, .un, .un], k⟩
theorem r_0 (W : Draws G) (k : Int × Int) (hk : CupOk k) : ∃ N k', (sSet 2 (e2 addD (eC (.int 3)) (eCall (some 0) D__law_roll (aCons (eCall (some 0) D__law_some (aCons (eA lstD (aCons (eC (.int 2)) (aCons (eC (.int 6)) aNil))) aNil)) aNil)))) (⟨[.cup, .val (.int g), .un, .un, .un, .un, .un, .un, .un, .un, .un, .un, .un, .un], k⟩ : S) = .ok .nx (⟨[.cup, .val (.int g), .val (.int ((N : Nat) : Int)), .un, .un, .un, .un, .un, .un, .un, .un, .un, .un, .un], k'⟩ : S) ∧ CupOk k' ∧ 3 ≤ N ∧ N ≤ 8 := by
  obtain ⟨x, k1, e1, hx, hk1⟩ := some_ hk (xs := [.int 2, .int 6]) (by simp) (by decide)
  obtain ⟨n, rfl, n0, n1⟩ : ∃ n : Int, x = .int n ∧ 0 < n ∧ n ≤ 6 := by
    rcases List.mem_cons.mp hx with rfl | hx
    · exact ⟨2, rfl, by decide, by decide⟩
    rcases List.mem_cons.mp hx with rfl | hx
    · exact ⟨6, rfl, by decide, by decide⟩
    · cases hx
  have f1 := eCallC_eq (i := 0) (q := aCons (eA lstD (aCons (eC (.int 2)) (aCons (eC (.int 6)) aNil))) aNil) (s := (⟨[.cup, .val (.int g), .un, .un, .un, .un, .un, .un, .un, .un, .un, .un, .un, .un], k⟩ : S)) rfl rfl e1
  obtain ⟨r, k2, e2', r0, r1, hk2⟩ := roll hk1 n0 (by omega)
  have f2' := eCallC_eq (i := 0) (q := aCons (eCall (some 0) D__law_some (aCons (eA lstD (aCons (eC (.int 2)) (aCons (eC (.int 6)) aNil))) aNil)) aNil) (s := (⟨[.cup, .val (.int g), .un, .un, .un, .un, .un, .un, .un, .un, .un, .un, .un, .un], k⟩ : S)) rfl (aCons_eq f1 rfl) e2'
  refine ⟨(3 + r).toNat, k2, ?_, hk2, by omega, by omega⟩
  have e : (((3 + r).toNat : Nat) : Int) = 3 + r := by omega
  rw [e]
  exact (sSet_eq (e2_eq (x := .int 3) (y := .int r) (r := .int (3 + r)) rfl f2' rfl)).trans rfl
theorem r_1 (W : Draws G) {N : Nat} (h3 : 3 ≤ N) (h8 : N ≤ 8) (k : Int × Int) (hk : CupOk k) : ∃ r s i k', (sPar [3, 4, 5] (oVal (eCall (some 0) D__law_row (aCons (eVar 1) (aCons (eVar 2) (aCons (eC (.int 0)) aNil)))) (oVal (eCall (some 0) D__law_row (aCons (eVar 1) (aCons (eVar 2) (aCons (eCall (some 0) D__law_roll (aCons (eC (.int 2)) aNil)) aNil)))) (oVal (eCall (some 0) D__law_row (aCons (eVar 1) (aCons (eVar 2) (aCons (eC (.int 1)) aNil)))) oNil)))) (⟨[.cup, .val (.int g), .val (.int (N : Nat)), .un, .un, .un, .un, .un, .un, .un, .un, .un, .un, .un], k⟩ : S) = .ok .nx (rq G N r s i .un .un .un .un .un .un k') ∧ CupOk k' ∧ Dn3 G N r s i := by
  obtain ⟨r, k1, e1, hk1, hr, _⟩ := law_row G W h3 h8 (b := 0) (by omega) k hk
  obtain ⟨b, kb, eb, b0, b1, hkb⟩ := roll hk1 (n := 2) (by decide) (by decide)
  obtain ⟨bn, rfl⟩ : ∃ n : Nat, b = (n : Int) := ⟨b.toNat, by omega⟩
  obtain ⟨s, k2, e2', hk2, hs, _⟩ := law_row G W h3 h8 (b := bn) (by omega) kb hkb
  obtain ⟨i, k3, e3, hk3, hi, hi0⟩ := law_row G W h3 h8 (b := 1) (by omega) k2 hk2
  have f1 := eCallC_eq (i := 0) (q := aCons (eVar 1) (aCons (eVar 2) (aCons (eC (.int 0)) aNil))) (s := (⟨[.cup, .val (.int g), .val (.int (N : Nat)), .un, .un, .un, .un, .un, .un, .un, .un, .un, .un, .un], k⟩ : S)) (ds := [.int g, .int (N : Nat), .int 0]) rfl rfl e1
  have fb := eCallC_eq (i := 0) (q := aCons (eC (.int 2)) aNil) (s := (⟨[.cup, .val (.int g), .val (.int (N : Nat)), .un, .un, .un, .un, .un, .un, .un, .un, .un, .un, .un], k1⟩ : S)) (ds := [.int 2]) rfl rfl eb
  have f2' := eCallC_eq (i := 0) (q := aCons (eVar 1) (aCons (eVar 2) (aCons (eCall (some 0) D__law_roll (aCons (eC (.int 2)) aNil)) aNil))) (s := (⟨[.cup, .val (.int g), .val (.int (N : Nat)), .un, .un, .un, .un, .un, .un, .un, .un, .un, .un, .un], k1⟩ : S)) (ds := [.int g, .int (N : Nat), .int (bn : Nat)]) rfl (aCons_eq (d := .int g) rfl (aCons_eq (d := .int (N : Nat)) rfl (aCons_eq fb rfl))) e2'
  have f3 := eCallC_eq (i := 0) (q := aCons (eVar 1) (aCons (eVar 2) (aCons (eC (.int 1)) aNil))) (s := (⟨[.cup, .val (.int g), .val (.int (N : Nat)), .un, .un, .un, .un, .un, .un, .un, .un, .un, .un, .un], k2⟩ : S)) (ds := [.int g, .int (N : Nat), .int 1]) rfl rfl e3
  refine ⟨r, s, i, k3, ?_, hk3, ⟨hr, hs, hi, hi0 0 (by decide)⟩⟩
  refine src_eq (a := [.val (tr G N r), .val (tr G N s), .val (tr G N i)]) (s1 := (⟨[.cup, .val (.int g), .val (.int (N : Nat)), .un, .un, .un, .un, .un, .un, .un, .un, .un, .un, .un], k3⟩ : S)) ?_ rfl
  exact src_eq f1 (src_eq (src_eq f2' (src_eq (src_eq f3 rfl) rfl)) rfl)
section
variable {N : Nat} {r s i : Nat → α} (k : Int × Int)
theorem wz_at {a6 a7 a8 a9 a10 a11 : Sl} : eCall none D__law_whole_of (aCons (eVar 1) (aCons (eC (.int 0)) aNil)) (rq G N r s i a6 a7 a8 a9 a10 a11 k) = .ok (G.em 0) (rq G N r s i a6 a7 a8 a9 a10 a11 k) := eCall_at (ds := [.int g, .int 0]) rfl (G.wh0 k)
theorem wo_at {a6 a7 a8 a9 a10 a11 : Sl} : eCall none D__law_whole_of (aCons (eVar 1) (aCons (eC (.int 1)) aNil)) (rq G N r s i a6 a7 a8 a9 a10 a11 k) = .ok (G.em 1) (rq G N r s i a6 a7 a8 a9 a10 a11 k) := eCall_at (ds := [.int g, .int 1]) rfl (G.wh1 k)
theorem r_2 (D0 : Dn3 G N r s i) {a7 a8 a9 a10 a11 : Sl} : (sSet 6 (e2 addD (eA tupD (aCons (eCall none D__law_whole_of (aCons (eVar 1) (aCons (eC (.int 1)) aNil))) aNil)) (e2 mulD (eA tupD (aCons (eCall none D__law_whole_of (aCons (eVar 1) (aCons (eC (.int 0)) aNil))) aNil)) (e2 subD (eVar 2) (eC (.int 1)))))) (rq G N r s i .un a7 a8 a9 a10 a11 k) = .ok .nx (rq G N r s i (.val (tr G N (dl 1))) a7 a8 a9 a10 a11 k) := by
  have h3 := D0.dr.n3
  have h8 := D0.dr.n8
  obtain ⟨M, rfl⟩ : ∃ M, N = M + 1 := ⟨N - 1, by omega⟩
  have e1 : e2 subD (eVar 2) (eC (.int 1)) (rq G (M + 1) r s i .un a7 a8 a9 a10 a11 k) = .ok (.int (M : Nat)) (rq G (M + 1) r s i .un a7 a8 a9 a10 a11 k) := by
    refine e2_at (x := .int ((M + 1 : Nat) : Int)) (y := .int 1) rfl rfl ?_
    exact congrArg (fun v => some (PyData.int v)) (by omega : ((M + 1 : Nat) : Int) - 1 = (M : Int))
  have w0 := eA_at (f := tupD) (r := .tuple [G.em 0]) (aCons_at (wz_at G (N := M + 1) (r := r) (s := s) (i := i) k (a6 := .un) (a7 := a7) (a8 := a8) (a9 := a9) (a10 := a10) (a11 := a11)) (rfl : aNil (rq G (M + 1) r s i .un a7 a8 a9 a10 a11 k) = .ok [] _)) rfl
  have w1 := eA_at (f := tupD) (r := .tuple [G.em 1]) (aCons_at (wo_at G (N := M + 1) (r := r) (s := s) (i := i) k (a6 := .un) (a7 := a7) (a8 := a8) (a9 := a9) (a10 := a10) (a11 := a11)) (rfl : aNil (rq G (M + 1) r s i .un a7 a8 a9 a10 a11 k) = .ok [] _)) rfl
  have e2' := e2_at (f := mulD) w0 e1 (mul_fill G (N := M) (by omega) 0)
  have e3 := e2_at (f := addD) w1 e2' (add_tup (by rw [tl_len, List.length_singleton]; omega))
  have e4 : [G.em 1] ++ tl G M (fun _ => 0) = tl G (M + 1) (dl 1) := (tl_cons G 1 (fun _ => 0)).trans (tl_congr G fun n _ => rfl)
  rw [e4] at e3
  exact sSet_at e3 rfl
theorem r_3 (D0 : Dn3 G N r s i) {a6 a8 a9 a10 a11 : Sl} : (sSet 7 (e2 addD (eA tupD (aCons (eCall none D__law_whole_of (aCons (eVar 1) (aCons (eC (.int 0)) aNil))) (aCons (eCall none D__law_whole_of (aCons (eVar 1) (aCons (eC (.int 1)) aNil))) aNil))) (e2 mulD (eA tupD (aCons (eCall none D__law_whole_of (aCons (eVar 1) (aCons (eC (.int 0)) aNil))) aNil)) (e2 subD (eVar 2) (eC (.int 2)))))) (rq G N r s i a6 .un a8 a9 a10 a11 k) = .ok .nx (rq G N r s i a6 (.val (tr G N xx)) a8 a9 a10 a11 k) := by
  have h3 := D0.dr.n3
  have h8 := D0.dr.n8
  obtain ⟨M, rfl⟩ : ∃ M, N = M + 2 := ⟨N - 2, by omega⟩
  have e1 : e2 subD (eVar 2) (eC (.int 2)) (rq G (M + 2) r s i a6 .un a8 a9 a10 a11 k) = .ok (.int (M : Nat)) (rq G (M + 2) r s i a6 .un a8 a9 a10 a11 k) := by
    refine e2_at (x := .int ((M + 2 : Nat) : Int)) (y := .int 2) rfl rfl ?_
    exact congrArg (fun v => some (PyData.int v)) (by omega : ((M + 2 : Nat) : Int) - 2 = (M : Int))
  have w0 := eA_at (f := tupD) (r := .tuple [G.em 0]) (aCons_at (wz_at G (N := M + 2) (r := r) (s := s) (i := i) k (a6 := a6) (a7 := .un) (a8 := a8) (a9 := a9) (a10 := a10) (a11 := a11)) (rfl : aNil (rq G (M + 2) r s i a6 .un a8 a9 a10 a11 k) = .ok [] _)) rfl
  have w1 := eA_at (f := tupD) (r := .tuple [G.em 0, G.em 1]) (aCons_at (wz_at G (N := M + 2) (r := r) (s := s) (i := i) k (a6 := a6) (a7 := .un) (a8 := a8) (a9 := a9) (a10 := a10) (a11 := a11)) (aCons_at (wo_at G (N := M + 2) (r := r) (s := s) (i := i) k (a6 := a6) (a7 := .un) (a8 := a8) (a9 := a9) (a10 := a10) (a11 := a11)) (rfl : aNil (rq G (M + 2) r s i a6 .un a8 a9 a10 a11 k) = .ok [] _))) rfl
  have e2' := e2_at (f := mulD) w0 e1 (mul_fill G (N := M) (by omega) 0)
  have e3 := e2_at (f := addD) w1 e2' (add_tup (by rw [tl_len]; show 2 + M ≤ 1000; omega))
  have e4 : [G.em 0, G.em 1] ++ tl G M (fun _ => 0) = tl G (M + 2) xx := by
    have q1 : G.em 1 :: tl G M (fun _ => (0 : α)) = tl G (M + 1) (dl 1) := (tl_cons G 1 (fun _ => 0)).trans (tl_congr G fun n _ => rfl)
    have q2 : G.em 0 :: tl G (M + 1) (sh xx) = tl G (M + 2) xx := (tl_cons G 0 xx).trans (tl_congr G fun n _ => by
      by_cases h : n = 0
      · subst h; rfl
      · exact if_neg h)
    rw [← q2, sh_xx, ← q1]; rfl
  rw [e4] at e3
  exact sSet_at e3 rfl
abbrev tld (N : Nat) (r s i : Nat → α) : D := .list [.bool true, tr G N (cv r s), tr G N (C N r i)]
theorem r_4 (D0 : Dn3 G N r s i) {a6 a7 a9 a10 a11 : Sl} : (sSet 8 (eA lstD (aCons (eCall none D_is_power_row (aCons (eVar 1) (aCons (eVar 3) aNil))) (aCons (eCall none D_multiplied_rows (aCons (eVar 1) (aCons (eVar 3) (aCons (eVar 4) aNil)))) (aCons (eCall none D_put_into_row (aCons (eVar 1) (aCons (eVar 3) (aCons (eVar 5) aNil)))) aNil))))) (rq G N r s i a6 a7 .un a9 a10 a11 k) = .ok .nx (rq G N r s i a6 a7 (.val (tld G N r s i)) a9 a10 a11 k) := by
  have e1 : eCall none D_is_power_row (aCons (eVar 1) (aCons (eVar 3) aNil)) (rq G N r s i a6 a7 .un a9 a10 a11 k) = .ok (.bool true) (rq G N r s i a6 a7 .un a9 a10 a11 k) := eCall_at (ds := [.int g, tr G N r]) rfl (is_row G k D0.dr)
  have e2' : eCall none D_multiplied_rows (aCons (eVar 1) (aCons (eVar 3) (aCons (eVar 4) aNil))) (rq G N r s i a6 a7 .un a9 a10 a11 k) = .ok (tr G N (cv r s)) (rq G N r s i a6 a7 .un a9 a10 a11 k) := eCall_at (ds := [.int g, tr G N r, tr G N s]) rfl (multiplied G k D0.dr D0.ds)
  have e3 : eCall none D_put_into_row (aCons (eVar 1) (aCons (eVar 3) (aCons (eVar 5) aNil))) (rq G N r s i a6 a7 .un a9 a10 a11 k) = .ok (tr G N (C N r i)) (rq G N r s i a6 a7 .un a9 a10 a11 k) := eCall_at (ds := [.int g, tr G N r, tr G N i]) rfl (put_into G k D0.dr D0.di D0.i0)
  exact sSet_at (eA_at (aCons_at e1 (aCons_at e2' (aCons_at e3 rfl))) rfl) rfl
theorem r_5 (D0 : Dn3 G N r s i) {a6 a7 a9 a10 a11 : Sl} : (sIf (tNot (tV (eCall none D__law_like (aCons (eVar 8) (aCons (eA lstD (aCons (eC (.bool true)) (aCons (eCall none D__law_times (aCons (eVar 1) (aCons (eVar 3) (aCons (eVar 4) aNil)))) (aCons (eCall none D__law_put (aCons (eVar 1) (aCons (eVar 3) (aCons (eVar 5) aNil)))) aNil)))) aNil))))) (sRet (eC (.bool false))) (PL.ret .nx)) (rq G N r s i a6 a7 (.val (tld G N r s i)) a9 a10 a11 k) = .ok .nx (rq G N r s i a6 a7 (.val (tld G N r s i)) a9 a10 a11 k) := by
  have h3 := D0.dr.n3
  have h8 := D0.dr.n8
  have e2' : eCall none D__law_times (aCons (eVar 1) (aCons (eVar 3) (aCons (eVar 4) aNil))) (rq G N r s i a6 a7 (.val (tld G N r s i)) a9 a10 a11 k) = .ok (tr G N (cv r s)) (rq G N r s i a6 a7 (.val (tld G N r s i)) a9 a10 a11 k) := eCall_at (ds := [.int g, tr G N r, tr G N s]) rfl (law_times G N r s k (pd_dr G D0.dr D0.ds))
  have hq : Pq G N r i := pq_u G (a := 1) (b := 2) (by omega) h8 (by decide) (by decide) (fun j hj => dr_w G D0.dr hj) (fun j hj => dr_w G D0.di hj)
  have e3 : eCall none D__law_put (aCons (eVar 1) (aCons (eVar 3) (aCons (eVar 5) aNil))) (rq G N r s i a6 a7 (.val (tld G N r s i)) a9 a10 a11 k) = .ok (tr G N (C N r i)) (rq G N r s i a6 a7 (.val (tld G N r s i)) a9 a10 a11 k) := eCall_at (ds := [.int g, tr G N r, tr G N i]) rfl (law_put G N r i k hq)
  have e4 : eA lstD (aCons (eC (.bool true)) (aCons (eCall none D__law_times (aCons (eVar 1) (aCons (eVar 3) (aCons (eVar 4) aNil)))) (aCons (eCall none D__law_put (aCons (eVar 1) (aCons (eVar 3) (aCons (eVar 5) aNil)))) aNil))) (rq G N r s i a6 a7 (.val (tld G N r s i)) a9 a10 a11 k) = .ok (tld G N r s i) (rq G N r s i a6 a7 (.val (tld G N r s i)) a9 a10 a11 k) := eA_at (aCons_at (d := .bool true) rfl (aCons_at e2' (aCons_at e3 rfl))) rfl
  have e5 : D__law_like [tld G N r s i, tld G N r s i] k = .ok (.bool true) k := like_lst 7 _ k (by show 3 ≤ lim; decide) fun e he => by
    rcases List.mem_cons.mp he with rfl | he
    · exact (like_bool 6 true true k).trans rfl
    rcases List.mem_cons.mp he with rfl | he
    · exact like_tr G N (by omega) _ 4 k
    rcases List.mem_cons.mp he with rfl | he
    · exact like_tr G N (by omega) _ 4 k
    · cases he
  have e6 := eCall_at (den := D__law_like) (aCons_at (m := eVar 8) (d := tld G N r s i) rfl (aCons_at e4 (rfl : aNil (rq G N r s i a6 a7 (.val (tld G N r s i)) a9 a10 a11 k) = .ok [] _))) e5
  exact go_f (tNot_eq (tV_eq e6))
end
end
end K90
set_option maxHeartbeats 2000000
namespace K90
open PySem PySem.Spec PL LL GD SR Lean.Grind
theorem ne_of_eq {x y : D} {b : Bool} (hb : eqD x y = some (.bool b)) : neD x y = some (.bool (!b)) := by
  unfold eqD at hb
  unfold neD
  split at hb
  · rename_i hs
    rw [if_pos hs]
    injection hb with hb
    injection hb with hb
    rw [hb]
  · cases hb
theorem none_ne : neD (.str "none") (.str "none") = some (.bool false) := by kernel_rfl
theorem add_lst {a b : List D} (h : a.length + b.length ≤ 1000) : addD (.list a) (.list b) = some (.list (a ++ b)) := if_pos (by rw [GD.lim_eq]; omega)
theorem sq_ct {a c : M Fl} {s s1 : S} (h : a s = .ok .ct s1) : sq a c s = .ok .ct s1 := by
  unfold sq
  rw [bnd_eq h]
  rfl
section
variable {α : Type} [CommRing α] [DecidableEq α] {g : Int} (G : Gr α g)
section
variable {N : Nat} {r s i f : Nat → α} (k : Int × Int) {a8 a9 a10 : Sl}
abbrev rf (N : Nat) (r s i : Nat → α) (a8 a9 a10 : Sl) (f : Nat → α) (k : Int × Int) : S := rq G N r s i (.val (tr G N (dl 1))) (.val (tr G N xx)) a8 a9 a10 (.val (tr G N f)) k
theorem at_f (D : Dr G N f) {j : Nat} (hj : j < N) : pkF 11 (eC (.int (j : Nat))) idxD (rf G N r s i a8 a9 a10 f k) = .ok (G.em (f j)) (rf G N r s i a8 a9 a10 f k) := pk_at (a := .int (j : Nat)) rfl rfl (ix_tr G f hj)
theorem err_no {m : M D} {q s1 : S} (h : m { q with r := q.r.map hideO } = .exc "NotFound" s1) (hc : s1.c = q.c) : tV (e2 neD (eErr words m) (eC (.str "none"))) q = .ok false q := by
  have e := eErr_exc (words := words) (r := .str "none") h rfl
  rw [hc] at e
  exact tV_at (e2_at (y := .str "none") e rfl none_ne)
theorem turn6 (D0 : Dr G N f) : ∃ fl u9, (fl = Fl.nx ∨ fl = Fl.ct) ∧ (sq (sIf (tV (e2 eqD (pkF 11 (eC (.int 0)) idxD) (eCall none D__law_whole_of (aCons (eVar 1) (aCons (eC (.int 0)) aNil))))) (sq (sIf (tV (e2 neD (eErr words (eCall none D_reciprocal (aCons (eVar 1) (aCons (eVar 11) aNil)))) (eC (.str "none")))) (sRet (eC (.bool false))) (PL.ret .nx)) (PL.ret .ct)) (PL.ret .nx)) (sq (sSet 9 (eCall none D_reciprocal (aCons (eVar 1) (aCons (eVar 11) aNil)))) (sIf (tOr (tNot (tV (eCall none D__law_is_row (aCons (eVar 1) (aCons (eVar 9) aNil))))) (tOr (tV (e2 neD (pkF 9 (PL.ret ()) fun d _ => lenD [d]) (eVar 2))) (tV (e2 neD (eCall none D__law_times (aCons (eVar 1) (aCons (eVar 11) (aCons (eVar 9) aNil)))) (eVar 6))))) (sRet (eC (.bool false))) (PL.ret .nx)))) (rf G N r s i a8 a9 a10 f k) = .ok fl (rf G N r s i a8 u9 a10 f k) := by
  have h3 := D0.n3
  have h8 := D0.n8
  have t0 := tV_at (e2_at (f := eqD) (at_f G (r := r) (s := s) (i := i) (a8 := a8) (a9 := a9) (a10 := a10) k D0 (j := 0) (by omega)) (wz_at G k) (G.eqz (f 0)))
  by_cases h0 : f 0 = 0
  · rw [_root_.decide_eq_true h0] at t0
    have e1 := err_no (q := rf G N r s i a8 a9 a10 f k) (m := eCall none D_reciprocal (aCons (eVar 1) (aCons (eVar 11) aNil))) (eCall_exc (ds := [.int g, tr G N f]) rfl (recip_no G k D0 h0)) rfl
    exact ⟨.ct, a9, .inr rfl, sq_ct ((sIf_t t0).trans (sq_nx (go_f e1) rfl))⟩
  · rw [_root_.decide_eq_false h0] at t0
    obtain ⟨b, fb, hb, e1⟩ := recip G k D0 h0
    have P := R_pd G D0 hb
    have b1 : sSet 9 (eCall none D_reciprocal (aCons (eVar 1) (aCons (eVar 11) aNil))) (rf G N r s i a8 a9 a10 f k) = .ok .nx (rf G N r s i a8 (.val (tr G N (R f b (N - 1)))) a10 f k) := sSet_at (eCall_at (ds := [.int g, tr G N f]) rfl e1) rfl
    have c1 : eCall none D__law_is_row (aCons (eVar 1) (aCons (eVar 9) aNil)) (rf G N r s i a8 (.val (tr G N (R f b (N - 1)))) a10 f k) = .ok (.bool true) (rf G N r s i a8 (.val (tr G N (R f b (N - 1)))) a10 f k) := eCall_at (ds := [.int g, tr G N (R f b (N - 1))]) rfl (law_is_tr G h3 (by omega) P.ph k)
    have c2 : tV (e2 neD (pkF 9 (PL.ret ()) fun d _ => lenD [d]) (eVar 2)) (rf G N r s i a8 (.val (tr G N (R f b (N - 1)))) a10 f k) = .ok false (rf G N r s i a8 (.val (tr G N (R f b (N - 1)))) a10 f k) := by
      refine tV_at (e2_at (x := .int (N : Nat)) (y := .int (N : Nat)) (pk_at (a := ()) rfl rfl (by rw [len_tup, tl_len])) rfl ?_)
      rw [ne_int]; simp
    have c3 : eCall none D__law_times (aCons (eVar 1) (aCons (eVar 11) (aCons (eVar 9) aNil))) (rf G N r s i a8 (.val (tr G N (R f b (N - 1)))) a10 f k) = .ok (tr G N (dl 1)) (rf G N r s i a8 (.val (tr G N (R f b (N - 1)))) a10 f k) := by
      refine eCall_at (ds := [.int g, tr G N f, tr G N (R f b (N - 1))]) rfl ((law_times G N f (R f b (N - 1)) k P).trans ?_)
      show Rk.ok (PyData.tuple (tl G N (cv f (R f b (N - 1))))) k = _
      rw [R_one G D0 fb]
    have c4 := tV_at (e2_at (f := neD) (mb := eVar 6) (y := tr G N (dl 1)) c3 rfl (ne_same _ (sh_tr G N (dl 1))))
    exact ⟨.nx, _, .inl rfl, sq_nx (go_f t0) (sq_nx b1 (go_f ((tOr_f (tNot_eq (tV_eq c1))).trans ((tOr_f c2).trans c4))))⟩
theorem xx_dr (h3 : 3 ≤ N) (h8 : N ≤ 8) : Dr G N xx := ⟨h3, h8, fun j _ => by
  unfold xx
  split
  · exact G.sl1
  · exact G.sl0⟩
theorem turn7 (D0 : Dr G N f) : ∃ fl u9, (fl = Fl.nx ∨ fl = Fl.ct) ∧ (sq (sIf (tOr (tV (e2 neD (pkF 11 (eC (.int 0)) idxD) (eCall none D__law_whole_of (aCons (eVar 1) (aCons (eC (.int 0)) aNil))))) (tV (e2 eqD (pkF 11 (eC (.int 1)) idxD) (eCall none D__law_whole_of (aCons (eVar 1) (aCons (eC (.int 0)) aNil)))))) (sq (sIf (tV (e2 neD (eErr words (eCall none D_turned_row (aCons (eVar 1) (aCons (eVar 11) aNil)))) (eC (.str "none")))) (sRet (eC (.bool false))) (PL.ret .nx)) (PL.ret .ct)) (PL.ret .nx)) (sq (sSet 9 (eCall none D_turned_row (aCons (eVar 1) (aCons (eVar 11) aNil)))) (sIf (tOr (tNot (tV (eCall none D__law_is_row (aCons (eVar 1) (aCons (eVar 9) aNil))))) (tOr (tV (e2 neD (pkF 9 (PL.ret ()) fun d _ => lenD [d]) (eVar 2))) (tOr (tV (e2 neD (eCall none D__law_put (aCons (eVar 1) (aCons (eVar 11) (aCons (eVar 9) aNil)))) (eVar 7))) (tV (e2 neD (eCall none D__law_put (aCons (eVar 1) (aCons (eVar 9) (aCons (eVar 11) aNil)))) (eVar 7)))))) (sRet (eC (.bool false))) (PL.ret .nx)))) (rf G N r s i a8 a9 a10 f k) = .ok fl (rf G N r s i a8 u9 a10 f k) := by
  have h3 := D0.n3
  have h8 := D0.n8
  have t0 := tV_at (e2_at (f := neD) (at_f G (r := r) (s := s) (i := i) (a8 := a8) (a9 := a9) (a10 := a10) k D0 (j := 0) (by omega)) (wz_at G k) (ne_of_eq (G.eqz (f 0))))
  have t1 := tV_at (e2_at (f := eqD) (at_f G (r := r) (s := s) (i := i) (a8 := a8) (a9 := a9) (a10 := a10) k D0 (j := 1) (by omega)) (wz_at G k) (G.eqz (f 1)))
  by_cases h0 : f 0 = 0 ∧ f 1 ≠ 0
  · obtain ⟨f0, f1⟩ := h0
    rw [_root_.decide_eq_true f0] at t0
    rw [_root_.decide_eq_false f1] at t1
    obtain ⟨b, fb, hb, e1⟩ := turned G k D0 f0 f1
    have Z := T_z G D0 f0 hb (N - 2) (by omega)
    have b1 : sSet 9 (eCall none D_turned_row (aCons (eVar 1) (aCons (eVar 11) aNil))) (rf G N r s i a8 a9 a10 f k) = .ok .nx (rf G N r s i a8 (.val (tr G N (T f b (N - 2)))) a10 f k) := sSet_at (eCall_at (ds := [.int g, tr G N f]) rfl e1) rfl
    have c1 : eCall none D__law_is_row (aCons (eVar 1) (aCons (eVar 9) aNil)) (rf G N r s i a8 (.val (tr G N (T f b (N - 2)))) a10 f k) = .ok (.bool true) (rf G N r s i a8 (.val (tr G N (T f b (N - 2)))) a10 f k) := eCall_at (ds := [.int g, tr G N (T f b (N - 2))]) rfl (law_is_tr G h3 (by omega) (fun j hj => G.w_mono (by omega) (by omega) (zb_w G Z hj)) k)
    have c2 : tV (e2 neD (pkF 9 (PL.ret ()) fun d _ => lenD [d]) (eVar 2)) (rf G N r s i a8 (.val (tr G N (T f b (N - 2)))) a10 f k) = .ok false (rf G N r s i a8 (.val (tr G N (T f b (N - 2)))) a10 f k) := by
      refine tV_at (e2_at (x := .int (N : Nat)) (y := .int (N : Nat)) (pk_at (a := ()) rfl rfl (by rw [len_tup, tl_len])) rfl ?_)
      rw [ne_int]; simp
    have c3 : eCall none D__law_put (aCons (eVar 1) (aCons (eVar 11) (aCons (eVar 9) aNil))) (rf G N r s i a8 (.val (tr G N (T f b (N - 2)))) a10 f k) = .ok (tr G N xx) (rf G N r s i a8 (.val (tr G N (T f b (N - 2)))) a10 f k) := by
      refine eCall_at (ds := [.int g, tr G N f, tr G N (T f b (N - 2))]) rfl ((law_put G N f (T f b (N - 2)) k (pq_z G D0 Z)).trans ?_)
      show Rk.ok (PyData.tuple (tl G N (C N f (T f b (N - 2))))) k = _
      rw [T_right G D0 f0 fb]
    have c4 := tV_at (e2_at (f := neD) (mb := eVar 7) (y := tr G N xx) c3 rfl (ne_same _ (sh_tr G N xx)))
    have hq : Pq G N (T f b (N - 2)) f := pq_u G (a := 21) (b := 168) (by omega) h8 (by decide) (by decide) (T_wide G D0 f0 hb) (fun j hj => dr_w G D0 hj)
    have c5 : eCall none D__law_put (aCons (eVar 1) (aCons (eVar 9) (aCons (eVar 11) aNil))) (rf G N r s i a8 (.val (tr G N (T f b (N - 2)))) a10 f k) = .ok (tr G N xx) (rf G N r s i a8 (.val (tr G N (T f b (N - 2)))) a10 f k) := by
      refine eCall_at (ds := [.int g, tr G N (T f b (N - 2)), tr G N f]) rfl ((law_put G N (T f b (N - 2)) f k hq).trans ?_)
      show Rk.ok (PyData.tuple (tl G N (C N (T f b (N - 2)) f))) k = _
      rw [T_back G D0 f0 fb]
    have c6 := tV_at (e2_at (f := neD) (mb := eVar 7) (y := tr G N xx) c5 rfl (ne_same _ (sh_tr G N xx)))
    exact ⟨.nx, _, .inl rfl, sq_nx (go_f ((tOr_f t0).trans t1)) (sq_nx b1 (go_f ((tOr_f (tNot_eq (tV_eq c1))).trans ((tOr_f c2).trans ((tOr_f c4).trans c6)))))⟩
  · have e1 := err_no (q := rf G N r s i a8 a9 a10 f k) (m := eCall none D_turned_row (aCons (eVar 1) (aCons (eVar 11) aNil))) (eCall_exc (ds := [.int g, tr G N f]) rfl (turned_no G k D0 h0)) rfl
    have t : tOr (tV (e2 neD (pkF 11 (eC (.int 0)) idxD) (eCall none D__law_whole_of (aCons (eVar 1) (aCons (eC (.int 0)) aNil))))) (tV (e2 eqD (pkF 11 (eC (.int 1)) idxD) (eCall none D__law_whole_of (aCons (eVar 1) (aCons (eC (.int 0)) aNil))))) (rf G N r s i a8 a9 a10 f k) = .ok true (rf G N r s i a8 a9 a10 f k) := by
      by_cases f0 : f 0 = 0
      · have f1 : f 1 = 0 := Decidable.byContradiction fun z => h0 ⟨f0, z⟩
        rw [_root_.decide_eq_true f0] at t0
        rw [_root_.decide_eq_true f1] at t1
        exact (tOr_f t0).trans t1
      · rw [_root_.decide_eq_false f0] at t0
        exact tOr_t t0
    exact ⟨.ct, a9, .inr rfl, sq_ct ((sIf_t t).trans (sq_nx (go_f e1) rfl))⟩
abbrev rl (N : Nat) (r s i : Nat → α) (a8 a9 a10 a11 : Sl) (k : Int × Int) : S := rq G N r s i (.val (tr G N (dl 1))) (.val (tr G N xx)) a8 a9 a10 a11 k
theorem r_6 (D0 : Dn3 G N r s i) {a11 : Sl} : ∃ q u9 u11, (sFor (bnd (eA tupD (aCons (eVar 3) (aCons (eVar 4) aNil))) itD) (gN 11) (sq (sIf (tV (e2 eqD (pkF 11 (eC (.int 0)) idxD) (eCall none D__law_whole_of (aCons (eVar 1) (aCons (eC (.int 0)) aNil))))) (sq (sIf (tV (e2 neD (eErr words (eCall none D_reciprocal (aCons (eVar 1) (aCons (eVar 11) aNil)))) (eC (.str "none")))) (sRet (eC (.bool false))) (PL.ret .nx)) (PL.ret .ct)) (PL.ret .nx)) (sq (sSet 9 (eCall none D_reciprocal (aCons (eVar 1) (aCons (eVar 11) aNil)))) (sIf (tOr (tNot (tV (eCall none D__law_is_row (aCons (eVar 1) (aCons (eVar 9) aNil))))) (tOr (tV (e2 neD (pkF 9 (PL.ret ()) fun d _ => lenD [d]) (eVar 2))) (tV (e2 neD (eCall none D__law_times (aCons (eVar 1) (aCons (eVar 11) (aCons (eVar 9) aNil)))) (eVar 6))))) (sRet (eC (.bool false))) (PL.ret .nx))))) (rl G N r s i a8 a9 a10 a11 k) = .ok .nx q ∧ q = rl G N r s i a8 u9 a10 u11 k := by
  obtain ⟨q, e, u9, u11, rfl⟩ := forL_any (asg := gN 11) (body := (sq (sIf (tV (e2 eqD (pkF 11 (eC (.int 0)) idxD) (eCall none D__law_whole_of (aCons (eVar 1) (aCons (eC (.int 0)) aNil))))) (sq (sIf (tV (e2 neD (eErr words (eCall none D_reciprocal (aCons (eVar 1) (aCons (eVar 11) aNil)))) (eC (.str "none")))) (sRet (eC (.bool false))) (PL.ret .nx)) (PL.ret .ct)) (PL.ret .nx)) (sq (sSet 9 (eCall none D_reciprocal (aCons (eVar 1) (aCons (eVar 11) aNil)))) (sIf (tOr (tNot (tV (eCall none D__law_is_row (aCons (eVar 1) (aCons (eVar 9) aNil))))) (tOr (tV (e2 neD (pkF 9 (PL.ret ()) fun d _ => lenD [d]) (eVar 2))) (tV (e2 neD (eCall none D__law_times (aCons (eVar 1) (aCons (eVar 11) (aCons (eVar 9) aNil)))) (eVar 6))))) (sRet (eC (.bool false))) (PL.ret .nx))))) (J := fun _ q => ∃ u9 u11, q = rl G N r s i a8 u9 a10 u11 k) [tr G N r, tr G N s] 0 (rl G N r s i a8 a9 a10 a11 k) ⟨_, _, rfl⟩ fun j x q hx hq => by
    obtain ⟨u9, u11, rfl⟩ := hq
    have hf : ∃ f, x = tr G N f ∧ Dr G N f := by
      rcases List.mem_cons.mp (List.mem_of_getElem? hx) with rfl | hx
      · exact ⟨r, rfl, D0.dr⟩
      rcases List.mem_cons.mp hx with rfl | hx
      · exact ⟨s, rfl, D0.ds⟩
      · cases hx
    obtain ⟨f, rfl, hf⟩ := hf
    obtain ⟨fl, v9, hfl, e⟩ := turn6 G (r := r) (s := s) (i := i) (a8 := a8) (a9 := u9) (a10 := a10) k hf
    exact ⟨fl, _, hfl, asg_eq gN_eq e, _, _, rfl⟩
  exact ⟨_, u9, u11, sFor_eq (ds := [tr G N r, tr G N s]) rfl e, rfl⟩
theorem r_7 (D0 : Dn3 G N r s i) {a11 : Sl} : ∃ q u9 u11, (sFor (bnd (eA tupD (aCons (eVar 5) (aCons (eVar 3) (aCons (eVar 4) (aCons (eVar 7) aNil))))) itD) (gN 11) (sq (sIf (tOr (tV (e2 neD (pkF 11 (eC (.int 0)) idxD) (eCall none D__law_whole_of (aCons (eVar 1) (aCons (eC (.int 0)) aNil))))) (tV (e2 eqD (pkF 11 (eC (.int 1)) idxD) (eCall none D__law_whole_of (aCons (eVar 1) (aCons (eC (.int 0)) aNil)))))) (sq (sIf (tV (e2 neD (eErr words (eCall none D_turned_row (aCons (eVar 1) (aCons (eVar 11) aNil)))) (eC (.str "none")))) (sRet (eC (.bool false))) (PL.ret .nx)) (PL.ret .ct)) (PL.ret .nx)) (sq (sSet 9 (eCall none D_turned_row (aCons (eVar 1) (aCons (eVar 11) aNil)))) (sIf (tOr (tNot (tV (eCall none D__law_is_row (aCons (eVar 1) (aCons (eVar 9) aNil))))) (tOr (tV (e2 neD (pkF 9 (PL.ret ()) fun d _ => lenD [d]) (eVar 2))) (tOr (tV (e2 neD (eCall none D__law_put (aCons (eVar 1) (aCons (eVar 11) (aCons (eVar 9) aNil)))) (eVar 7))) (tV (e2 neD (eCall none D__law_put (aCons (eVar 1) (aCons (eVar 9) (aCons (eVar 11) aNil)))) (eVar 7)))))) (sRet (eC (.bool false))) (PL.ret .nx))))) (rl G N r s i a8 a9 a10 a11 k) = .ok .nx q ∧ q = rl G N r s i a8 u9 a10 u11 k := by
  obtain ⟨q, e, u9, u11, rfl⟩ := forL_any (asg := gN 11) (body := (sq (sIf (tOr (tV (e2 neD (pkF 11 (eC (.int 0)) idxD) (eCall none D__law_whole_of (aCons (eVar 1) (aCons (eC (.int 0)) aNil))))) (tV (e2 eqD (pkF 11 (eC (.int 1)) idxD) (eCall none D__law_whole_of (aCons (eVar 1) (aCons (eC (.int 0)) aNil)))))) (sq (sIf (tV (e2 neD (eErr words (eCall none D_turned_row (aCons (eVar 1) (aCons (eVar 11) aNil)))) (eC (.str "none")))) (sRet (eC (.bool false))) (PL.ret .nx)) (PL.ret .ct)) (PL.ret .nx)) (sq (sSet 9 (eCall none D_turned_row (aCons (eVar 1) (aCons (eVar 11) aNil)))) (sIf (tOr (tNot (tV (eCall none D__law_is_row (aCons (eVar 1) (aCons (eVar 9) aNil))))) (tOr (tV (e2 neD (pkF 9 (PL.ret ()) fun d _ => lenD [d]) (eVar 2))) (tOr (tV (e2 neD (eCall none D__law_put (aCons (eVar 1) (aCons (eVar 11) (aCons (eVar 9) aNil)))) (eVar 7))) (tV (e2 neD (eCall none D__law_put (aCons (eVar 1) (aCons (eVar 9) (aCons (eVar 11) aNil)))) (eVar 7)))))) (sRet (eC (.bool false))) (PL.ret .nx))))) (J := fun _ q => ∃ u9 u11, q = rl G N r s i a8 u9 a10 u11 k) [tr G N i, tr G N r, tr G N s, tr G N xx] 0 (rl G N r s i a8 a9 a10 a11 k) ⟨_, _, rfl⟩ fun j x q hx hq => by
    obtain ⟨u9, u11, rfl⟩ := hq
    have hf : ∃ f, x = tr G N f ∧ Dr G N f := by
      rcases List.mem_cons.mp (List.mem_of_getElem? hx) with rfl | hx
      · exact ⟨i, rfl, D0.di⟩
      rcases List.mem_cons.mp hx with rfl | hx
      · exact ⟨r, rfl, D0.dr⟩
      rcases List.mem_cons.mp hx with rfl | hx
      · exact ⟨s, rfl, D0.ds⟩
      rcases List.mem_cons.mp hx with rfl | hx
      · exact ⟨xx, rfl, xx_dr G D0.dr.n3 D0.dr.n8⟩
      · cases hx
    obtain ⟨f, rfl, hf⟩ := hf
    obtain ⟨fl, v9, hfl, e⟩ := turn7 G (r := r) (s := s) (i := i) (a8 := a8) (a9 := u9) (a10 := a10) k hf
    exact ⟨fl, _, hfl, asg_eq gN_eq e, _, _, rfl⟩
  exact ⟨_, u9, u11, sFor_eq (ds := [tr G N i, tr G N r, tr G N s, tr G N xx]) rfl e, rfl⟩
/-! ### bent rows -/
theorem tr_el (D0 : Dr G N r) : ∀ x ∈ tl G N r, El x := fun x hx => by
  obtain ⟨j, hj, rfl⟩ := List.mem_map.mp hx
  rcases G.small (D0.sl j (List.mem_range.mp hj)) with ⟨v, e, h0, h1⟩ | ⟨a, b, e, h⟩
  · exact .inl ⟨v, e, by omega, h1⟩
  · exact .inr ⟨a, b, e, h⟩
theorem sm_of {l : List D} (h : l.length ≤ 1000) (hP : ∀ x ∈ l, P1 x) : SmP P1 (.tuple l) := fun m hm => by
  cases hm
  exact ⟨h, hP⟩
theorem r_8 (D0 : Dn3 G N r s i) {a11 : Sl} (hk : CupOk k) : ∃ vs k', (sSet 10 (e2 addD (frz (eLc (bnd (aCons (eC (.int 6)) aNil) rng1) (gN 12) (PL.ret true) (eCall (some 0) D__law_bent (aCons (eVar 3) aNil)) [12])) (eA lstD (aCons (pkF 3 (two (PL.ret none) (bnd (eC (.int 2)) asI)) fun d y => sliD y.1 y.2 d) (aCons (e2 mulD (eVar 3) (eC (.int 9))) (aCons (eA lstOfD (aCons (eVar 3) aNil)) (aCons (eC .none) (aCons (eA tupOfD (aCons (frz (eLc (bnd (eVar 3) itD) (gN 6) (PL.ret true) (eA lstD (aCons (eVar 6) aNil)) [6])) aNil)) aNil)))))))) (rl G N r s i a8 a9 a10 a11 k) = .ok .nx (rl G N r s i a8 a9 (.val (.list vs)) a11 k') ∧ CupOk k' ∧ vs.length = 11 ∧ ∀ v ∈ vs, SmP P1 v := by
  have h3 := D0.dr.n3
  have h8 := D0.dr.n8
  have hel : ∀ x ∈ tl G N r, P1 x := fun x hx => el_p1 (tr_el G D0.dr x hx)
  obtain ⟨ys, k1, e1, al, hk1⟩ := eLc_all (src := bnd (aCons (eC (.int 6)) aNil) rng1) (asg := gN 12) (elt := eCall (some 0) D__law_bent (aCons (eVar 3) aNil)) (vs := [12]) (I := CupOk) (P := fun _ y => SmP P1 y) (s := rl G N r s i a8 a9 a10 a11 k) (s1 := rl G N r s i a8 a9 a10 a11 k) (r0 := (rl G N r s i a8 a9 a10 a11 k).r) (r2 := (rl G N r s i a8 a9 a10 a11 k).r) (xs := rngL 0 6) rfl hk (by rw [rng_len]; decide) rfl rfl fun x hx k hk => by
    obtain ⟨y, k', e, hy, hk'⟩ := bent_row (ds := tl G N r) (by rw [tl_len]; omega) (sh_tr G N r) (tr_el G D0.dr) hk
    exact ⟨y, _, k', asg_eq gN_eq (eCallC_eq (i := 0) (q := aCons (eVar 3) aNil) (s := ⟨(rl G N r s i a8 a9 a10 a11 k).r.set 12 (.val x), k⟩) rfl rfl e), rfl, hy, hk'⟩
  have hys := al.of (Q := SmP P1) fun x y h => h
  have hlen := al.len
  rw [rng_len] at hlen
  have g1 : pkF 3 (two (PL.ret none) (bnd (eC (.int 2)) asI)) (fun d y => sliD y.1 y.2 d) (rl G N r s i a8 a9 a10 a11 k1) = .ok (.tuple (cutD (tl G N r) none (some 2))) (rl G N r s i a8 a9 a10 a11 k1) := pk_at (a := (none, some 2)) rfl rfl rfl
  have g2 : e2 mulD (eVar 3) (eC (.int 9)) (rl G N r s i a8 a9 a10 a11 k1) = .ok (.tuple (List.replicate 9 (tl G N r)).flatten) (rl G N r s i a8 a9 a10 a11 k1) := by
    refine e2_at (x := tr G N r) (y := .int 9) rfl rfl ?_
    have h1 : (tl G N r).length ≤ 1000 := by rw [tl_len]; omega
    unfold mulD
    dsimp only
    rw [if_pos ⟨by decide, by decide, h1⟩]
    rfl
  have g3 : eA lstOfD (aCons (eVar 3) aNil) (rl G N r s i a8 a9 a10 a11 k1) = .ok (.list (tl G N r)) (rl G N r s i a8 a9 a10 a11 k1) := rfl
  have src : bnd (eVar 3) itD (rl G N r s i a8 a9 a10 a11 k1) = .ok ((tl G N r).map id) (rl G N r s i a8 a9 a10 a11 k1) := by rw [List.map_id]; rfl
  have z := eLc_of (α := D) (e := id) (fun x => .list [x]) (asg := gN 6) (elt := eA lstD (aCons (eVar 6) aNil)) (vs := [6]) (r0 := (rq G N r s i .un (.val (tr G N xx)) a8 a9 a10 a11 k1).r) (r2 := (rl G N r s i a8 a9 a10 a11 k1).r) (l := tl G N r) src (by rw [tl_len, GD.lim_eq]; omega) rfl rfl fun x hx =>
    ⟨(rq G N r s i (.val x) (.val (tr G N xx)) a8 a9 a10 a11 k1).r, asg_eq gN_eq rfl, rfl⟩
  have g4 := eA_at (f := tupOfD) (r := .tuple ((tl G N r).map fun x => PyData.list [x])) (aCons_at (frz_eq z) (rfl : aNil (rl G N r s i a8 a9 a10 a11 k1) = .ok [] _)) rfl
  have g5 := eA_at (f := lstD) (r := .list [.tuple (cutD (tl G N r) none (some 2)), .tuple (List.replicate 9 (tl G N r)).flatten, .list (tl G N r), .none, .tuple ((tl G N r).map fun x => PyData.list [x])]) (aCons_at g1 (aCons_at g2 (aCons_at g3 (aCons_at (m := eC .none) (d := .none) rfl (aCons_at g4 (rfl : aNil (rl G N r s i a8 a9 a10 a11 k1) = .ok [] _)))))) rfl
  have g6 := e2_eq (f := addD) (r := .list (ys ++ [.tuple (cutD (tl G N r) none (some 2)), .tuple (List.replicate 9 (tl G N r)).flatten, .list (tl G N r), .none, .tuple ((tl G N r).map fun x => PyData.list [x])])) (frz_eq e1) g5 (add_lst (by rw [hlen]; show 6 + 5 ≤ 1000; decide))
  refine ⟨_, k1, (sSet_eq g6).trans rfl, hk1, by rw [List.length_append, hlen]; rfl, fun v hv => ?_⟩
  rcases List.mem_append.mp hv with hv | hv
  · exact hys v hv
  rcases List.mem_cons.mp hv with rfl | hv
  · exact sm_of (by have := cut_len (tl G N r) none (some 2); rw [tl_len] at this; omega) fun x hx => hel x (cut_mem hx)
  rcases List.mem_cons.mp hv with rfl | hv
  · refine sm_of ?_ fun x hx => ?_
    · rw [List.length_flatten, List.map_replicate, List.sum_replicate_nat, tl_len]; omega
    · obtain ⟨l, hl, hx⟩ := List.mem_flatten.mp hx
      rw [(List.mem_replicate.mp hl).2] at hx
      exact hel x hx
  rcases List.mem_cons.mp hv with rfl | hv
  · exact fun l hl => by cases hl
  rcases List.mem_cons.mp hv with rfl | hv
  · exact fun l hl => by cases hl
  rcases List.mem_cons.mp hv with rfl | hv
  · refine sm_of (by rw [List.length_map, tl_len]; omega) fun x hx => ?_
    obtain ⟨y, _, rfl⟩ := List.mem_map.mp hx
    exact ⟨fun l hl => (by cases hl), fun v hv => (by cases hv)⟩
  · cases hv
theorem r_9 {vs : List D} (hl : vs.length ≤ 100) (hv : ∀ v ∈ vs, SmP P1 v) {a11 : Sl} : (sRet (e2 eqD (frz (eLc (bnd (eVar 10) itD) (gN 13) (tNot (tV (eCall none D__law_like (aCons (eCall none D_is_power_row (aCons (eVar 1) (aCons (eVar 13) aNil))) (aCons (eCall none D__law_is_row (aCons (eVar 1) (aCons (eVar 13) aNil))) aNil))))) (eC (.int 1)) [13])) (eA lstD aNil))) (rl G N r s i a8 a9 (.val (.list vs)) a11 k) = .ok (.rt (.bool true)) (rl G N r s i a8 a9 (.val (.list vs)) a11 k) := by
  have src : bnd (eVar 10) itD (rl G N r s i a8 a9 (.val (.list vs)) a11 k) = .ok (vs.map id) (rl G N r s i a8 a9 (.val (.list vs)) a11 k) := by rw [List.map_id]; rfl
  have z := eLc_pick (α := D) (e := id) (p := fun _ => false) (fun _ => PyData.int 1) (asg := gN 13) (tst := tNot (tV (eCall none D__law_like (aCons (eCall none D_is_power_row (aCons (eVar 1) (aCons (eVar 13) aNil))) (aCons (eCall none D__law_is_row (aCons (eVar 1) (aCons (eVar 13) aNil))) aNil))))) (elt := eC (.int 1)) (vs := [13]) (r0 := (rl G N r s i a8 a9 (.val (.list vs)) a11 k).r) (r2 := (rl G N r s i a8 a9 (.val (.list vs)) a11 k).r) (l := vs) src (by rw [GD.lim_eq]; omega) rfl rfl fun v hm => by
    refine ⟨(rl G N r s i a8 a9 (.val (.list vs)) a11 k).r.set 13 (.val v), asg_eq gN_eq ?_, fun h => (by cases h), fun _ => rfl⟩
    have f1 := eCall_at (den := D_is_power_row) (q := aCons (eVar 1) (aCons (eVar 13) aNil)) (ds := [.int g, v]) (s := ⟨(rl G N r s i a8 a9 (.val (.list vs)) a11 k).r.set 13 (.val v), k⟩) rfl (is_row_any G.hg v (hv v hm) k)
    have f2' := eCall_at (den := D__law_is_row) (q := aCons (eVar 1) (aCons (eVar 13) aNil)) (ds := [.int g, v]) (s := ⟨(rl G N r s i a8 a9 (.val (.list vs)) a11 k).r.set 13 (.val v), k⟩) rfl (law_is_any G.hg v (hv v hm) k)
    have f3 := eCall_at (den := D__law_like) (aCons_at f1 (aCons_at f2' (rfl : aNil (⟨(rl G N r s i a8 a9 (.val (.list vs)) a11 k).r.set 13 (.val v), k⟩ : S) = .ok [] _))) (like_bool 7 _ _ k)
    rw [_root_.decide_eq_true rfl] at f3
    exact tNot_eq (tV_eq f3)
  have hf : vs.filter (fun _ => false) = [] := List.filter_eq_nil_iff.mpr (by simp)
  rw [hf, List.map_nil] at z
  exact sRet_eq (e2_at (x := .list []) (y := .list []) (frz_eq z) rfl rfl)
end
theorem law_right (W : Draws G) (k : Int × Int) (hk : CupOk k) : ∃ k', D__law_right [.int g] k = .ok (.bool true) k' ∧ CupOk k' := by
  obtain ⟨N, k1, a0, hk1, h3, h8⟩ := r_0 G W k hk
  obtain ⟨r, s, i, k2, a1, hk2, D0⟩ := r_1 G W h3 h8 k1 hk1
  have a2 := r_2 G k2 D0 (a7 := .un) (a8 := .un) (a9 := .un) (a10 := .un) (a11 := .un)
  have a3 := r_3 G k2 D0 (a6 := .val (tr G N (dl 1))) (a8 := .un) (a9 := .un) (a10 := .un) (a11 := .un)
  have a4 := r_4 G k2 D0 (a6 := .val (tr G N (dl 1))) (a7 := .val (tr G N xx)) (a9 := .un) (a10 := .un) (a11 := .un)
  have a5 := r_5 G k2 D0 (a6 := .val (tr G N (dl 1))) (a7 := .val (tr G N xx)) (a9 := .un) (a10 := .un) (a11 := .un)
  obtain ⟨q, u9, u11, a6, rfl⟩ := r_6 G k2 D0 (a8 := .val (tld G N r s i)) (a9 := .un) (a10 := .un) (a11 := .un)
  obtain ⟨q, v9, v11, a7, rfl⟩ := r_7 G k2 D0 (a8 := .val (tld G N r s i)) (a9 := u9) (a10 := .un) (a11 := u11)
  obtain ⟨vs, k3, a8, hk3, hl, hv⟩ := r_8 G k2 D0 (a8 := .val (tld G N r s i)) (a9 := v9) (a10 := .un) (a11 := v11) hk2
  have a9 := r_9 G k3 (N := N) (r := r) (s := s) (i := i) (a8 := .val (tld G N r s i)) (a9 := v9) (a11 := v11) (vs := vs) (by omega) hv
  exact ⟨k3, den_rt (k := k) (s1 := rl G N r s i (.val (tld G N r s i)) v9 (.val (.list vs)) v11 k3) (sq_nx a0 (sq_nx a1 (sq_nx a2 (sq_nx a3 (sq_nx a4 (sq_nx a5 (sq_nx a6 (sq_nx a7 (sq_nx a8 a9))))))))), hk3⟩
end
end K90
set_option maxHeartbeats 2000000
namespace K90
open PySem PySem.Spec PL LL GD SR
theorem all_right (x : D) (hx : x ∈ ([.int 0, .int 2, .int 3, .int 5, .int 7, .int 97] : List D)) (k : Int × Int) (hk : CupOk k) : ∃ k', D__law_right [x] k = .ok (.bool true) k' ∧ CupOk k' := by
  rcases List.mem_cons.mp hx with rfl | hx
  · exact law_right grZ draws_z k hk
  rcases List.mem_cons.mp hx with rfl | hx
  · exact law_right (grP (p := 2) (by decide)) (draws_p _) k hk
  rcases List.mem_cons.mp hx with rfl | hx
  · exact law_right (grP (p := 3) (by decide)) (draws_p _) k hk
  rcases List.mem_cons.mp hx with rfl | hx
  · exact law_right (grP (p := 5) (by decide)) (draws_p _) k hk
  rcases List.mem_cons.mp hx with rfl | hx
  · exact law_right (grP (p := 7) (by decide)) (draws_p _) k hk
  rcases List.mem_cons.mp hx with rfl | hx
  · exact law_right (grP (p := 97) (by decide)) (draws_p _) k hk
  · cases hx
abbrev lw (r2 r3 : Sl) (k : Int × Int) : S := ⟨[.un, .cup, r2, r3], k⟩
theorem turn_law (k : Int × Int) (hk : CupOk k) {r2 r3 : Sl} : ∃ k', (sIf (tNot (tV (eCall (some 1) D__law_right (aCons (eCall (some 1) D__law_some (aCons (eA lstD (aCons (eC (.int 0)) (aCons (eC (.int 2)) (aCons (eC (.int 3)) (aCons (eC (.int 5)) (aCons (eC (.int 7)) (aCons (eC (.int 97)) aNil))))))) aNil)) aNil)))) (sRet (eC (.bool false))) (PL.ret .nx)) (lw r2 r3 k) = .ok .nx (lw r2 r3 k') ∧ CupOk k' := by
  obtain ⟨x, k1, f1, hx, hk1⟩ := some_ hk (xs := [.int 0, .int 2, .int 3, .int 5, .int 7, .int 97]) (by simp) (by decide)
  have a1 := eCallC_eq (i := 1) (q := aCons (eA lstD (aCons (eC (.int 0)) (aCons (eC (.int 2)) (aCons (eC (.int 3)) (aCons (eC (.int 5)) (aCons (eC (.int 7)) (aCons (eC (.int 97)) aNil))))))) aNil) (s := lw r2 r3 k) rfl rfl f1
  obtain ⟨k2, f2, hk2⟩ := all_right x hx k1 hk1
  have a2 := eCallC_eq (i := 1) (q := aCons (eCall (some 1) D__law_some (aCons (eA lstD (aCons (eC (.int 0)) (aCons (eC (.int 2)) (aCons (eC (.int 3)) (aCons (eC (.int 5)) (aCons (eC (.int 7)) (aCons (eC (.int 97)) aNil))))))) aNil)) aNil) (s := lw r2 r3 k) rfl (aCons_eq a1 rfl) f2
  exact ⟨k2, (sIf_f (tNot_eq (tV_eq a2))).trans rfl, hk2⟩
theorem turns_law (k : Int × Int) (hk : CupOk k) : ∃ q k' r2, (sFor (bnd (aCons (eC (.int 4)) aNil) rng1) (gN 2) (sIf (tNot (tV (eCall (some 1) D__law_right (aCons (eCall (some 1) D__law_some (aCons (eA lstD (aCons (eC (.int 0)) (aCons (eC (.int 2)) (aCons (eC (.int 3)) (aCons (eC (.int 5)) (aCons (eC (.int 7)) (aCons (eC (.int 97)) aNil))))))) aNil)) aNil)))) (sRet (eC (.bool false))) (PL.ret .nx))) (lw .un .un k) = .ok .nx q ∧ q = lw r2 .un k' ∧ CupOk k' := by
  obtain ⟨q, e, r2, k', rfl, hk'⟩ := forL_all (asg := gN 2) (body := (sIf (tNot (tV (eCall (some 1) D__law_right (aCons (eCall (some 1) D__law_some (aCons (eA lstD (aCons (eC (.int 0)) (aCons (eC (.int 2)) (aCons (eC (.int 3)) (aCons (eC (.int 5)) (aCons (eC (.int 7)) (aCons (eC (.int 97)) aNil))))))) aNil)) aNil)))) (sRet (eC (.bool false))) (PL.ret .nx))) (J := fun _ q => ∃ r2 k', q = lw r2 .un k' ∧ CupOk k') (rngL 0 4) 0 (lw .un .un k) ⟨_, _, rfl, hk⟩ fun j x q hx hq => by
    obtain ⟨r2, k, rfl, hk⟩ := hq
    obtain ⟨k', e, hk'⟩ := turn_law k hk (r2 := .val x) (r3 := .un)
    exact ⟨_, asg_eq gN_eq e, _, _, rfl, hk'⟩
  exact ⟨_, k', r2, sFor_eq (src := bnd (aCons (eC (.int 4)) aNil) rng1) (ds := rngL 0 4) rfl e, rfl, hk'⟩
abbrev tz (l : List Int) : D := .tuple (zs l)
def t1 : List D := [tz [1, 4, 1], tz [0, 1, 6, 2], tz [0, 1, 0, 0]]
def t2 : List D := t1 ++ [tz [1, 0, 0], tz [0, 3, 0], tz [1, 2, 0]]
section
variable (k : Int × Int) {r2 : Sl}
theorem l_1 : (sSet 3 (eA lstD (aCons (eCall none D_reciprocal (aCons (eC (.int 5)) (aCons (eA tupD (aCons (eC (.int 1)) (aCons (eC (.int 1)) (aCons (eC (.int 0)) aNil)))) aNil))) (aCons (eCall none D_turned_row (aCons (eC (.int 7)) (aCons (eA tupD (aCons (eC (.int 0)) (aCons (eC (.int 1)) (aCons (eC (.int 1)) (aCons (eC (.int 0)) aNil))))) aNil))) (aCons (eCall none D_put_into_row (aCons (eC (.int 7)) (aCons (eA tupD (aCons (eC (.int 0)) (aCons (eC (.int 1)) (aCons (eC (.int 1)) (aCons (eC (.int 0)) aNil))))) (aCons (eA tupD (aCons (eC (.int 0)) (aCons (eC (.int 1)) (aCons (eC (.int 6)) (aCons (eC (.int 2)) aNil))))) aNil)))) aNil))))) (lw r2 .un k) = .ok .nx (lw r2 (.val (.list t1)) k) := by kernel_rfl
theorem l_2 : (sSet 3 (e2 addD (eVar 3) (eA lstD (aCons (eCall none D_multiplied_rows (aCons (eC (.int 5)) (aCons (eA tupD (aCons (eC (.int 1)) (aCons (eC (.int 1)) (aCons (eC (.int 0)) aNil)))) (aCons (eA tupD (aCons (eC (.int 1)) (aCons (eC (.int 4)) (aCons (eC (.int 1)) aNil)))) aNil)))) (aCons (eCall none D_turned_row (aCons (eC (.int 5)) (aCons (eA tupD (aCons (eC (.int 0)) (aCons (eC (.int 2)) (aCons (eC (.int 0)) aNil)))) aNil))) (aCons (eCall none D_put_into_row (aCons (eC (.int 7)) (aCons (eA tupD (aCons (eC (.int 1)) (aCons (eC (.int 2)) (aCons (eC (.int 0)) aNil)))) (aCons (eA tupD (aCons (eC (.int 0)) (aCons (eC (.int 1)) (aCons (eC (.int 0)) aNil)))) aNil)))) aNil)))))) (lw r2 (.val (.list t1)) k) = .ok .nx (lw r2 (.val (.list t2)) k) := by kernel_rfl
theorem l_like : D__law_like [.list t2, .list t2] k = .ok (.bool true) k := by kernel_rfl
theorem errs : D__law_errors_right [] k = .ok (.bool true) k := by kernel_rfl
end
theorem math : Math := fun k hk => by
  obtain ⟨q, k1, r2, a0, rfl, hk1⟩ := turns_law k hk
  have g1 : eCall none D__law_like (aCons (eVar 3) (aCons (eA lstD (aCons (eA tupD (aCons (eC (.int 1)) (aCons (eC (.int 4)) (aCons (eC (.int 1)) aNil)))) (aCons (eA tupD (aCons (eC (.int 0)) (aCons (eC (.int 1)) (aCons (eC (.int 6)) (aCons (eC (.int 2)) aNil))))) (aCons (eA tupD (aCons (eC (.int 0)) (aCons (eC (.int 1)) (aCons (eC (.int 0)) (aCons (eC (.int 0)) aNil))))) (aCons (eA tupD (aCons (eC (.int 1)) (aCons (eC (.int 0)) (aCons (eC (.int 0)) aNil)))) (aCons (eA tupD (aCons (eC (.int 0)) (aCons (eC (.int 3)) (aCons (eC (.int 0)) aNil)))) (aCons (eA tupD (aCons (eC (.int 1)) (aCons (eC (.int 2)) (aCons (eC (.int 0)) aNil)))) aNil))))))) aNil)) (lw r2 (.val (.list t2)) k1) = .ok (.bool true) (lw r2 (.val (.list t2)) k1) := eCall_at (ds := [.list t2, .list t2]) rfl (l_like k1)
  have g2 : eCall0 D__law_errors_right (lw r2 (.val (.list t2)) k1) = .ok (.bool true) (lw r2 (.val (.list t2)) k1) := eCall0_eq (errs k1)
  exact ⟨_, sq_nx a0 (sq_nx (l_1 k1) (sq_nx (l_2 k1) (sRet_eq ((eAnd_t g1).trans g2))))⟩
end K90
set_option maxHeartbeats 0
open PySem PySem.Spec PyProof.Rows L2 LamX PL HotX L2H LL GD
namespace K90
def dd__law_cup : He.DefD := ⟨("_law_cup", none), "_law_cup", "_law_cup", defArgs s__law_cup, defBody s__law_cup, defScope s__law_cup, [], []⟩
def dd__law_roll : He.DefD := ⟨("_law_roll", none), "_law_roll", "_law_roll", defArgs s__law_roll, defBody s__law_roll, defScope s__law_roll, [], []⟩
def dd__law_some : He.DefD := ⟨("_law_some", none), "_law_some", "_law_some", defArgs s__law_some, defBody s__law_some, defScope s__law_some, [], []⟩
def dd__law_divisor : He.DefD := ⟨("_law_divisor", none), "_law_divisor", "_law_divisor", defArgs s__law_divisor, defBody s__law_divisor, defScope s__law_divisor, [], []⟩
def dd__law_plain : He.DefD := ⟨("_law_plain", none), "_law_plain", "_law_plain", defArgs s__law_plain, defBody s__law_plain, defScope s__law_plain, [], []⟩
def dd__law_whole_of : He.DefD := ⟨("_law_whole_of", none), "_law_whole_of", "_law_whole_of", defArgs s__law_whole_of, defBody s__law_whole_of, defScope s__law_whole_of, [], []⟩
def dd__law_row : He.DefD := ⟨("_law_row", none), "_law_row", "_law_row", defArgs s__law_row, defBody s__law_row, defScope s__law_row, [], []⟩
def dd_is_whole : He.DefD := ⟨("is_whole", none), "is_whole", "is_whole", defArgs s_is_whole, defBody s_is_whole, defScope s_is_whole, [], []⟩
def dd_is_ground : He.DefD := ⟨("is_ground", none), "is_ground", "is_ground", defArgs s_is_ground, defBody s_is_ground, defScope s_is_ground, [], []⟩
def dd_need_ground : He.DefD := ⟨("need_ground", none), "need_ground", "need_ground", defArgs s_need_ground, defBody s_need_ground, defScope s_need_ground, [], []⟩
def dd_is_tuple_of : He.DefD := ⟨("is_tuple_of", none), "is_tuple_of", "is_tuple_of", defArgs s_is_tuple_of, defBody s_is_tuple_of, defScope s_is_tuple_of, [], []⟩
def dd_fits_ground : He.DefD := ⟨("fits_ground", none), "fits_ground", "fits_ground", defArgs s_fits_ground, defBody s_fits_ground, defScope s_fits_ground, [], []⟩
def dd_fits_power_row : He.DefD := ⟨("fits_power_row", none), "fits_power_row", "fits_power_row", defArgs s_fits_power_row, defBody s_fits_power_row, defScope s_fits_power_row, [], []⟩
def dd_is_power_row : He.DefD := ⟨("is_power_row", none), "is_power_row", "is_power_row", defArgs s_is_power_row, defBody s_is_power_row, defScope s_is_power_row, [], []⟩
def dd_need_power_row : He.DefD := ⟨("need_power_row", none), "need_power_row", "need_power_row", defArgs s_need_power_row, defBody s_need_power_row, defScope s_need_power_row, [], []⟩
def dd_need_like : He.DefD := ⟨("need_like", none), "need_like", "need_like", defArgs s_need_like, defBody s_need_like, defScope s_need_like, [], []⟩
def dd_number_of : He.DefD := ⟨("number_of", none), "number_of", "number_of", defArgs s_number_of, defBody s_number_of, defScope s_number_of, [], []⟩
def dd_ratio : He.DefD := ⟨("ratio", none), "ratio", "ratio", defArgs s_ratio, defBody s_ratio, defScope s_ratio, [], []⟩
def dd_sum_of : He.DefD := ⟨("sum_of", none), "sum_of", "sum_of", defArgs s_sum_of, defBody s_sum_of, defScope s_sum_of, [], []⟩
def dd_product_of : He.DefD := ⟨("product_of", none), "product_of", "product_of", defArgs s_product_of, defBody s_product_of, defScope s_product_of, [], []⟩
def dd_times_row : He.DefD := ⟨("times_row", none), "times_row", "times_row", defArgs s_times_row, defBody s_times_row, defScope s_times_row, [], []⟩
def dd_multiplied_rows : He.DefD := ⟨("multiplied_rows", none), "multiplied_rows", "multiplied_rows", defArgs s_multiplied_rows, defBody s_multiplied_rows, defScope s_multiplied_rows, [], []⟩
def dd_is_nothing : He.DefD := ⟨("is_nothing", none), "is_nothing", "is_nothing", defArgs s_is_nothing, defBody s_is_nothing, defScope s_is_nothing, [], []⟩
def dd_put_row : He.DefD := ⟨("put_row", none), "put_row", "put_row", defArgs s_put_row, defBody s_put_row, defScope s_put_row, [], []⟩
def dd_put_into_row : He.DefD := ⟨("put_into_row", none), "put_into_row", "put_into_row", defArgs s_put_into_row, defBody s_put_into_row, defScope s_put_into_row, [], []⟩
def dd__law_sort : He.DefD := ⟨("_law_sort", none), "_law_sort", "_law_sort", defArgs s__law_sort, defBody s__law_sort, defScope s__law_sort, [], []⟩
def dd__law_like : He.DefD := ⟨("_law_like", none), "_law_like", "_law_like", defArgs s__law_like, defBody s__law_like, defScope s__law_like, [], []⟩
def dd__law_add : He.DefD := ⟨("_law_add", none), "_law_add", "_law_add", defArgs s__law_add, defBody s__law_add, defScope s__law_add, [], []⟩
def dd__law_mul : He.DefD := ⟨("_law_mul", none), "_law_mul", "_law_mul", defArgs s__law_mul, defBody s__law_mul, defScope s__law_mul, [], []⟩
def dd__law_times : He.DefD := ⟨("_law_times", none), "_law_times", "_law_times", defArgs s__law_times, defBody s__law_times, defScope s__law_times, [], []⟩
def dd__law_put : He.DefD := ⟨("_law_put", none), "_law_put", "_law_put", defArgs s__law_put, defBody s__law_put, defScope s__law_put, [], []⟩
def dd__law_error : He.DefD := ⟨("_law_error", none), "_law_error", "_law_error", defArgs s__law_error, defBody s__law_error, defScope s__law_error, [], []⟩
def dd_back_of : He.DefD := ⟨("back_of", none), "back_of", "back_of", defArgs s_back_of, defBody s_back_of, defScope s_back_of, [], []⟩
def dd_negative_of : He.DefD := ⟨("negative_of", none), "negative_of", "negative_of", defArgs s_negative_of, defBody s_negative_of, defScope s_negative_of, [], []⟩
def dd_reciprocal : He.DefD := ⟨("reciprocal", none), "reciprocal", "reciprocal", defArgs s_reciprocal, defBody s_reciprocal, defScope s_reciprocal, [], []⟩
def dd__law_whole : He.DefD := ⟨("_law_whole", none), "_law_whole", "_law_whole", defArgs s__law_whole, defBody s__law_whole, defScope s__law_whole, [], []⟩
def dd__law_is_number : He.DefD := ⟨("_law_is_number", none), "_law_is_number", "_law_is_number", defArgs s__law_is_number, defBody s__law_is_number, defScope s__law_is_number, [], []⟩
def dd__law_is_row : He.DefD := ⟨("_law_is_row", none), "_law_is_row", "_law_is_row", defArgs s__law_is_row, defBody s__law_is_row, defScope s__law_is_row, [], []⟩
def dd_turned_row : He.DefD := ⟨("turned_row", none), "turned_row", "turned_row", defArgs s_turned_row, defBody s_turned_row, defScope s_turned_row, [], []⟩
def dd__law_bent : He.DefD := ⟨("_law_bent", none), "_law_bent", "_law_bent", defArgs s__law_bent, defBody s__law_bent, defScope s__law_bent, [], []⟩
def dd__law_right : He.DefD := ⟨("_law_right", none), "_law_right", "_law_right", defArgs s__law_right, defBody s__law_right, defScope s__law_right, [], []⟩
def dd__law_errors_right : He.DefD := ⟨("_law_errors_right", none), "_law_errors_right", "_law_errors_right", defArgs s__law_errors_right, defBody s__law_errors_right, defScope s__law_errors_right, [], []⟩
def dd_law : He.DefD := ⟨("law", none), "law", "law", defArgs s_law, defBody s_law, defScope s_law, [], []⟩
def fnL : List He.DefD := [dd__law_cup, dd__law_roll, dd__law_some, dd__law_divisor, dd__law_plain, dd__law_whole_of, dd__law_row, dd_is_whole, dd_is_ground, dd_need_ground, dd_is_tuple_of, dd_fits_ground, dd_fits_power_row, dd_is_power_row, dd_need_power_row, dd_need_like, dd_number_of, dd_ratio, dd_sum_of, dd_product_of, dd_times_row, dd_multiplied_rows, dd_is_nothing, dd_put_row, dd_put_into_row, dd__law_sort, dd__law_like, dd__law_add, dd__law_mul, dd__law_times, dd__law_put, dd__law_error, dd_back_of, dd_negative_of, dd_reciprocal, dd__law_whole, dd__law_is_number, dd__law_is_row, dd_turned_row, dd__law_bent, dd__law_right, dd__law_errors_right, dd_law]
def faL : List He.Fa := [.free "abs", .free "all", .free "bool", .free "enumerate", .free "int", .free "isinstance", .free "len", .free "list", .free "min", .free "range", .free "reversed", .free "str", .free "tuple", .free "zip", .int "GREAT" 10000000000000000000000000000000000000000, .glo "InvalidNumber", .exc "InvalidNumber", .glo "InvalidRow", .exc "InvalidRow", .glo "NotFound", .exc "NotFound", .glo "PRIMES", .glo "_law_cup", .glo "_law_roll", .glo "_law_some", .glo "_law_divisor", .glo "_law_plain", .glo "_law_whole_of", .glo "_law_row", .glo "is_whole", .glo "is_ground", .glo "need_ground", .glo "is_tuple_of", .glo "fits_ground", .glo "fits_power_row", .glo "is_power_row", .glo "need_power_row", .glo "need_like", .glo "number_of", .glo "ratio", .glo "sum_of", .glo "product_of", .glo "times_row", .glo "multiplied_rows", .glo "is_nothing", .glo "put_row", .glo "put_into_row", .glo "_law_sort", .glo "_law_like", .glo "_law_add", .glo "_law_mul", .glo "_law_times", .glo "_law_put", .glo "_law_error", .glo "back_of", .glo "negative_of", .glo "reciprocal", .glo "_law_whole", .glo "_law_is_number", .glo "_law_is_row", .glo "turned_row", .glo "_law_bent", .glo "_law_right", .glo "_law_errors_right", .glo "law", .glo "BlendError", .exm "InvalidNumber" "BlendError" true, .exm "InvalidRow" "BlendError" true, .exm "NotFound" "BlendError" true]
def exL (K : PySem.W.Frag) : Bool := [He.eqO (PySem.W.nsIn K mainGlobals "gcd") (some (some (.builtin "math.gcd"))), tupB K (He.ga K "PRIMES") [2, 3, 5, 7, 11, 13, 17, 19, 23, 29, 31, 37, 41, 43, 47, 53, 59, 61, 67, 71, 73, 79, 83, 89, 97], excCB K (He.ga K "InvalidNumber"), decide (PySem.W.kitOne K (.ref (He.ga K "InvalidNumber")) (.ref (He.ga K "NotFound")) = some false), decide (PySem.W.kitOne K (.ref (He.ga K "InvalidNumber")) (.ref (He.ga K "InvalidRow")) = some false), decide (PySem.W.kitOne K (.ref (He.ga K "InvalidNumber")) (.ref (He.ga K "InvalidNumber")) = some true), excCB K (He.ga K "InvalidRow"), decide (PySem.W.kitOne K (.ref (He.ga K "InvalidRow")) (.ref (He.ga K "NotFound")) = some false), decide (PySem.W.kitOne K (.ref (He.ga K "InvalidRow")) (.ref (He.ga K "InvalidRow")) = some true), decide (PySem.W.kitOne K (.ref (He.ga K "InvalidRow")) (.ref (He.ga K "InvalidNumber")) = some false), excCB K (He.ga K "NotFound"), decide (PySem.W.kitOne K (.ref (He.ga K "NotFound")) (.ref (He.ga K "NotFound")) = some true), decide (PySem.W.kitOne K (.ref (He.ga K "NotFound")) (.ref (He.ga K "InvalidRow")) = some false), decide (PySem.W.kitOne K (.ref (He.ga K "NotFound")) (.ref (He.ga K "InvalidNumber")) = some false), decide (He.tabOf K (He.codeOf K ("_law_right", none)) ≠ He.tabOf K (He.codeOf K ("_law_errors_right", none)))].all id
def tfL : List He.Defn := [("_law_right", none), ("_law_errors_right", none)]
abbrev R : PySem.W.OpenRow := PySem.W.OpenLaw.row PySem.Challenge.rw_blendhouse_k90_whole_power_rows
abbrev hk : PySem.W.Hook := He.hookX 4 faL fnL [] tfL exL
def ob (s : PySem.W.SharedT) : He.AlX := He.obsX 4 faL fnL [] tfL exL (HandSHeadRun.getT s)
theorem ob_eq (s : PySem.W.SharedT) : ob s = hk.obs s.abs := He.obsX_eq (HandSHeadRun.getT_eq s)
def looseL : List Str := "BlendError" :: "InvalidNumber" :: "InvalidRow" :: "NotFound" :: "is_whole" :: "is_tuple_of" :: "GREAT" :: "PRIMES" :: "is_ground" :: "need_ground" :: "fits_ground" :: "ratio" :: "number_of" :: "is_nothing" :: "sum_of" :: "product_of" :: "negative_of" :: "back_of" :: "fits_power_row" :: "is_power_row" :: "need_power_row" :: "need_like" :: "times_row" :: "multiplied_rows" :: "put_row" :: "put_into_row" :: "reciprocal" :: "turned_row" :: "_law_cup" :: "_law_roll" :: "_law_some" :: "_law_sort" :: "_law_like" :: "_law_whole" :: "_law_bent" :: "_law_error" :: "_law_divisor" :: "_law_plain" :: "_law_add" :: "_law_mul" :: "_law_whole_of" :: "_law_times" :: "_law_put" :: "_law_row" :: "_law_is_number" :: "_law_is_row" :: "_law_right" :: "_law_errors_right" :: []
theorem run (w : World) : HandSHeadRun.RunEqI R (PySem.W.view R.prog [0, 54]) hk ob 3000 looseL w := by
  unfold HandSHeadRun.RunEqI
  kernel_rfl
abbrev TLs (K : PySem.W.Frag) : List (Addr × Str) := [(He.tabOf K (He.codeOf K ("_law_right", none)), q__law_right), (He.tabOf K (He.codeOf K ("_law_errors_right", none)), q__law_errors_right)]
theorem gf_of {w : World} {K : PySem.W.Frag} {h : Heap} {mg : Str → Option Value} (KX : K.In h) (Gn : h.Ns mainGlobals mg) (cx : He.SaysX faL fnL [] tfL exL w h K) : Gf K mg := by
  have c : He.SaysD faL fnL K := congrArg Prod.fst cx.t
  have he := cx.more
  unfold exL at he
  exact ⟨He.free_ok KX Gn (c.fact 0 (f := .free "abs") rfl),
    He.free_ok KX Gn (c.fact 1 (f := .free "all") rfl),
    He.free_ok KX Gn (c.fact 2 (f := .free "bool") rfl),
    He.free_ok KX Gn (c.fact 3 (f := .free "enumerate") rfl),
    He.free_ok KX Gn (c.fact 4 (f := .free "int") rfl),
    He.free_ok KX Gn (c.fact 5 (f := .free "isinstance") rfl),
    He.free_ok KX Gn (c.fact 6 (f := .free "len") rfl),
    He.free_ok KX Gn (c.fact 7 (f := .free "list") rfl),
    He.free_ok KX Gn (c.fact 8 (f := .free "min") rfl),
    He.free_ok KX Gn (c.fact 9 (f := .free "range") rfl),
    He.free_ok KX Gn (c.fact 10 (f := .free "reversed") rfl),
    He.free_ok KX Gn (c.fact 11 (f := .free "str") rfl),
    He.free_ok KX Gn (c.fact 12 (f := .free "tuple") rfl),
    He.free_ok KX Gn (c.fact 13 (f := .free "zip") rfl),
    He.int_ok KX Gn (c.fact 14 (f := .int "GREAT" 10000000000000000000000000000000000000000) rfl),
    excO_of KX Gn (c.fact 15 (f := .glo "InvalidNumber") rfl) (c.fact 16 (f := .exc "InvalidNumber") rfl),
    excO_of KX Gn (c.fact 17 (f := .glo "InvalidRow") rfl) (c.fact 18 (f := .exc "InvalidRow") rfl),
    excO_of KX Gn (c.fact 19 (f := .glo "NotFound") rfl) (c.fact 20 (f := .exc "NotFound") rfl),
    PySem.W.mg_of KX Gn (He.eqO_ok (all_of he (i := 0) rfl)),
    He.glo_ok KX Gn (c.fact 21 (f := .glo "PRIMES") rfl),
    tupB_ok (all_of he (i := 1) rfl),
    ⟨c.def_ 0 (d := dd__law_cup) rfl, He.glo_ok KX Gn (c.fact 22 (f := .glo "_law_cup") rfl)⟩,
    ⟨c.def_ 1 (d := dd__law_roll) rfl, He.glo_ok KX Gn (c.fact 23 (f := .glo "_law_roll") rfl)⟩,
    ⟨c.def_ 2 (d := dd__law_some) rfl, He.glo_ok KX Gn (c.fact 24 (f := .glo "_law_some") rfl)⟩,
    ⟨c.def_ 3 (d := dd__law_divisor) rfl, He.glo_ok KX Gn (c.fact 25 (f := .glo "_law_divisor") rfl)⟩,
    ⟨c.def_ 4 (d := dd__law_plain) rfl, He.glo_ok KX Gn (c.fact 26 (f := .glo "_law_plain") rfl)⟩,
    ⟨c.def_ 5 (d := dd__law_whole_of) rfl, He.glo_ok KX Gn (c.fact 27 (f := .glo "_law_whole_of") rfl)⟩,
    ⟨c.def_ 6 (d := dd__law_row) rfl, He.glo_ok KX Gn (c.fact 28 (f := .glo "_law_row") rfl)⟩,
    ⟨c.def_ 7 (d := dd_is_whole) rfl, He.glo_ok KX Gn (c.fact 29 (f := .glo "is_whole") rfl)⟩,
    ⟨c.def_ 8 (d := dd_is_ground) rfl, He.glo_ok KX Gn (c.fact 30 (f := .glo "is_ground") rfl)⟩,
    ⟨c.def_ 9 (d := dd_need_ground) rfl, He.glo_ok KX Gn (c.fact 31 (f := .glo "need_ground") rfl)⟩,
    ⟨c.def_ 10 (d := dd_is_tuple_of) rfl, He.glo_ok KX Gn (c.fact 32 (f := .glo "is_tuple_of") rfl)⟩,
    ⟨c.def_ 11 (d := dd_fits_ground) rfl, He.glo_ok KX Gn (c.fact 33 (f := .glo "fits_ground") rfl)⟩,
    ⟨c.def_ 12 (d := dd_fits_power_row) rfl, He.glo_ok KX Gn (c.fact 34 (f := .glo "fits_power_row") rfl)⟩,
    ⟨c.def_ 13 (d := dd_is_power_row) rfl, He.glo_ok KX Gn (c.fact 35 (f := .glo "is_power_row") rfl)⟩,
    ⟨c.def_ 14 (d := dd_need_power_row) rfl, He.glo_ok KX Gn (c.fact 36 (f := .glo "need_power_row") rfl)⟩,
    ⟨c.def_ 15 (d := dd_need_like) rfl, He.glo_ok KX Gn (c.fact 37 (f := .glo "need_like") rfl)⟩,
    ⟨c.def_ 16 (d := dd_number_of) rfl, He.glo_ok KX Gn (c.fact 38 (f := .glo "number_of") rfl)⟩,
    ⟨c.def_ 17 (d := dd_ratio) rfl, He.glo_ok KX Gn (c.fact 39 (f := .glo "ratio") rfl)⟩,
    ⟨c.def_ 18 (d := dd_sum_of) rfl, He.glo_ok KX Gn (c.fact 40 (f := .glo "sum_of") rfl)⟩,
    ⟨c.def_ 19 (d := dd_product_of) rfl, He.glo_ok KX Gn (c.fact 41 (f := .glo "product_of") rfl)⟩,
    ⟨c.def_ 20 (d := dd_times_row) rfl, He.glo_ok KX Gn (c.fact 42 (f := .glo "times_row") rfl)⟩,
    ⟨c.def_ 21 (d := dd_multiplied_rows) rfl, He.glo_ok KX Gn (c.fact 43 (f := .glo "multiplied_rows") rfl)⟩,
    ⟨c.def_ 22 (d := dd_is_nothing) rfl, He.glo_ok KX Gn (c.fact 44 (f := .glo "is_nothing") rfl)⟩,
    ⟨c.def_ 23 (d := dd_put_row) rfl, He.glo_ok KX Gn (c.fact 45 (f := .glo "put_row") rfl)⟩,
    ⟨c.def_ 24 (d := dd_put_into_row) rfl, He.glo_ok KX Gn (c.fact 46 (f := .glo "put_into_row") rfl)⟩,
    ⟨c.def_ 25 (d := dd__law_sort) rfl, He.glo_ok KX Gn (c.fact 47 (f := .glo "_law_sort") rfl)⟩,
    ⟨c.def_ 26 (d := dd__law_like) rfl, He.glo_ok KX Gn (c.fact 48 (f := .glo "_law_like") rfl)⟩,
    ⟨c.def_ 27 (d := dd__law_add) rfl, He.glo_ok KX Gn (c.fact 49 (f := .glo "_law_add") rfl)⟩,
    ⟨c.def_ 28 (d := dd__law_mul) rfl, He.glo_ok KX Gn (c.fact 50 (f := .glo "_law_mul") rfl)⟩,
    ⟨c.def_ 29 (d := dd__law_times) rfl, He.glo_ok KX Gn (c.fact 51 (f := .glo "_law_times") rfl)⟩,
    ⟨c.def_ 30 (d := dd__law_put) rfl, He.glo_ok KX Gn (c.fact 52 (f := .glo "_law_put") rfl)⟩,
    ⟨c.def_ 32 (d := dd_back_of) rfl, He.glo_ok KX Gn (c.fact 54 (f := .glo "back_of") rfl)⟩,
    ⟨c.def_ 33 (d := dd_negative_of) rfl, He.glo_ok KX Gn (c.fact 55 (f := .glo "negative_of") rfl)⟩,
    ⟨c.def_ 34 (d := dd_reciprocal) rfl, He.glo_ok KX Gn (c.fact 56 (f := .glo "reciprocal") rfl)⟩,
    ⟨c.def_ 35 (d := dd__law_whole) rfl, He.glo_ok KX Gn (c.fact 57 (f := .glo "_law_whole") rfl)⟩,
    ⟨c.def_ 36 (d := dd__law_is_number) rfl, He.glo_ok KX Gn (c.fact 58 (f := .glo "_law_is_number") rfl)⟩,
    ⟨c.def_ 37 (d := dd__law_is_row) rfl, He.glo_ok KX Gn (c.fact 59 (f := .glo "_law_is_row") rfl)⟩,
    ⟨c.def_ 38 (d := dd_turned_row) rfl, He.glo_ok KX Gn (c.fact 60 (f := .glo "turned_row") rfl)⟩,
    ⟨c.def_ 39 (d := dd__law_bent) rfl, He.glo_ok KX Gn (c.fact 61 (f := .glo "_law_bent") rfl)⟩,
    ⟨c.def_ 40 (d := dd__law_right) rfl, He.glo_ok KX Gn (c.fact 62 (f := .glo "_law_right") rfl)⟩,
    ⟨c.def_ 41 (d := dd__law_errors_right) rfl, He.glo_ok KX Gn (c.fact 63 (f := .glo "_law_errors_right") rfl)⟩,
    ⟨c.def_ 42 (d := dd_law) rfl, He.glo_ok KX Gn (c.fact 64 (f := .glo "law") rfl)⟩,
    of_decide_eq_true (all_of he (i := 14) rfl),
    He.glo_ok KX Gn (c.fact 65 (f := .glo "BlendError") rfl),
    He.glo_ok KX Gn (c.fact 19 (f := .glo "NotFound") rfl),
    He.glo_ok KX Gn (c.fact 17 (f := .glo "InvalidRow") rfl),
    He.glo_ok KX Gn (c.fact 15 (f := .glo "InvalidNumber") rfl),
    He.exm_ok (c.fact 66 (f := .exm "InvalidNumber" "BlendError" true) rfl),
    excC_of (all_of he (i := 2) rfl),
    of_decide_eq_true (all_of he (i := 3) rfl),
    of_decide_eq_true (all_of he (i := 4) rfl),
    of_decide_eq_true (all_of he (i := 5) rfl),
    He.exm_ok (c.fact 67 (f := .exm "InvalidRow" "BlendError" true) rfl),
    excC_of (all_of he (i := 6) rfl),
    of_decide_eq_true (all_of he (i := 7) rfl),
    of_decide_eq_true (all_of he (i := 8) rfl),
    of_decide_eq_true (all_of he (i := 9) rfl),
    He.exm_ok (c.fact 68 (f := .exm "NotFound" "BlendError" true) rfl),
    excC_of (all_of he (i := 10) rfl),
    of_decide_eq_true (all_of he (i := 11) rfl),
    of_decide_eq_true (all_of he (i := 12) rfl),
    of_decide_eq_true (all_of he (i := 13) rfl),
    ⟨c.def_ 31 (d := dd__law_error) rfl, He.glo_ok KX Gn (c.fact 53 (f := .glo "_law_error") rfl)⟩⟩
theorem chain {P : Program} {w : World} {K : PySem.W.Frag} {mg : Str → Option Value} {base : Heap} (G : Gf K mg) (TB : ∀ p ∈ tfL.map (He.cT K), TabB base mg p.1 p.2) (math : Math) {fd : FuncData} (F1 : FnP K "law" s_law (He.ga K "law") fd) : FnOk P w K mg base (L2N.CX P w) 12 (He.ga K "law") fd ["script"] (spLaw K (TLs K)) := by
  have o__law_cup : OkD P w K mg base 1 "_law_cup" ["script"] (spCup K) := ok__law_cup G
  have o__law_roll : OkD P w K mg base 1 "_law_roll" ["cup", "many"] (spD K mg (TLs K) true 1 D__law_roll) := ok__law_roll G 
  have o__law_some : OkD P w K mg base 2 "_law_some" ["cup", "things"] (spD K mg (TLs K) true 1 D__law_some) := ok__law_some G o__law_roll
  have o__law_divisor : OkD P w K mg base 1 "_law_divisor" ["one", "other"] (spD K mg (TLs K) false 2 D__law_divisor) := ok__law_divisor G 
  have o__law_plain : OkD P w K mg base 2 "_law_plain" ["top", "bottom"] (spD K mg (TLs K) false 2 D__law_plain) := ok__law_plain G o__law_divisor
  have o__law_whole_of : OkD P w K mg base 1 "_law_whole_of" ["ground", "whole"] (spD K mg (TLs K) false 2 D__law_whole_of) := ok__law_whole_of G 
  have o__law_row : OkD P w K mg base 3 "_law_row" ["cup", "ground", "many", "begin"] (spD K mg (TLs K) true 3 D__law_row) := ok__law_row G o__law_plain o__law_roll o__law_whole_of
  have o_is_whole : OkD P w K mg base 1 "is_whole" ["value", "low", "high"] (spD K mg (TLs K) false 3 D_is_whole) := ok_is_whole G 
  have o_is_ground : OkD P w K mg base 2 "is_ground" ["value"] (spD K mg (TLs K) false 1 D_is_ground) := ok_is_ground G o_is_whole
  have o_need_ground : OkD P w K mg base 3 "need_ground" ["ground"] (spD K mg (TLs K) false 1 D_need_ground) := ok_need_ground G o_is_ground
  have o_is_tuple_of : OkD P w K mg base 1 "is_tuple_of" ["value", "low", "high"] (spD K mg (TLs K) false 3 D_is_tuple_of) := ok_is_tuple_of G 
  have o_fits_ground : OkD P w K mg base 2 "fits_ground" ["ground", "value"] (spD K mg (TLs K) false 2 D_fits_ground) := ok_fits_ground G o_is_tuple_of o_is_whole
  have o_fits_power_row : OkD P w K mg base 3 "fits_power_row" ["ground", "value"] (spD K mg (TLs K) false 2 D_fits_power_row) := ok_fits_power_row G o_fits_ground o_is_tuple_of
  have o_is_power_row : OkD P w K mg base 4 "is_power_row" ["ground", "value"] (spD K mg (TLs K) false 2 D_is_power_row) := ok_is_power_row G o_fits_power_row o_need_ground
  have o_need_power_row : OkD P w K mg base 4 "need_power_row" ["ground", "row"] (spD K mg (TLs K) false 2 D_need_power_row) := ok_need_power_row G o_fits_power_row o_need_ground
  have o_need_like : OkD P w K mg base 4 "need_like" ["ground", "row", "second"] (spD K mg (TLs K) false 3 D_need_like) := ok_need_like G o_fits_power_row
  have o_number_of : OkD P w K mg base 1 "number_of" ["ground", "whole"] (spD K mg (TLs K) false 2 D_number_of) := ok_number_of G 
  have o_ratio : OkD P w K mg base 1 "ratio" ["top", "bottom"] (spD K mg (TLs K) false 2 D_ratio) := ok_ratio G 
  have o_sum_of : OkD P w K mg base 2 "sum_of" ["ground", "one", "other"] (spD K mg (TLs K) false 3 D_sum_of) := ok_sum_of G o_ratio
  have o_product_of : OkD P w K mg base 2 "product_of" ["ground", "one", "other"] (spD K mg (TLs K) false 3 D_product_of) := ok_product_of G o_ratio
  have o_times_row : OkD P w K mg base 3 "times_row" ["ground", "row", "second"] (spD K mg (TLs K) false 3 D_times_row) := ok_times_row G o_number_of o_product_of o_sum_of
  have o_multiplied_rows : OkD P w K mg base 5 "multiplied_rows" ["ground", "row", "second"] (spD K mg (TLs K) false 3 D_multiplied_rows) := ok_multiplied_rows G o_need_like o_need_power_row o_times_row
  have o_is_nothing : OkD P w K mg base 1 "is_nothing" ["ground", "one"] (spD K mg (TLs K) false 2 D_is_nothing) := ok_is_nothing G 
  have o_put_row : OkD P w K mg base 4 "put_row" ["ground", "row", "second"] (spD K mg (TLs K) false 3 D_put_row) := ok_put_row G o_number_of o_sum_of o_times_row
  have o_put_into_row : OkD P w K mg base 5 "put_into_row" ["ground", "row", "second"] (spD K mg (TLs K) false 3 D_put_into_row) := ok_put_into_row G o_is_nothing o_need_like o_need_power_row o_put_row
  have o__law_sort : OkD P w K mg base 1 "_law_sort" ["value"] (spD K mg (TLs K) false 1 D__law_sort) := ok__law_sort G 
  have o__law_like : OkD P w K mg base 9 "_law_like" ["one", "other"] (spD K mg (TLs K) false 2 D__law_like) := ok__law_like G o__law_sort 8
  have o__law_add : OkD P w K mg base 3 "_law_add" ["ground", "one", "other"] (spD K mg (TLs K) false 3 D__law_add) := ok__law_add G o__law_plain
  have o__law_mul : OkD P w K mg base 3 "_law_mul" ["ground", "one", "other"] (spD K mg (TLs K) false 3 D__law_mul) := ok__law_mul G o__law_plain
  have o__law_times : OkD P w K mg base 4 "_law_times" ["ground", "row", "second"] (spD K mg (TLs K) false 3 D__law_times) := ok__law_times G o__law_add o__law_mul o__law_whole_of
  have o__law_put : OkD P w K mg base 5 "_law_put" ["ground", "row", "second"] (spD K mg (TLs K) false 3 D__law_put) := ok__law_put G o__law_add o__law_mul o__law_times o__law_whole_of
  have o_back_of : OkD P w K mg base 2 "back_of" ["ground", "one"] (spD K mg (TLs K) false 2 D_back_of) := ok_back_of G o_ratio
  have o_negative_of : OkD P w K mg base 1 "negative_of" ["ground", "one"] (spD K mg (TLs K) false 2 D_negative_of) := ok_negative_of G 
  have o_reciprocal : OkD P w K mg base 5 "reciprocal" ["ground", "row"] (spD K mg (TLs K) false 2 D_reciprocal) := ok_reciprocal G o_back_of o_is_nothing o_need_power_row o_negative_of o_number_of o_product_of o_sum_of
  have o__law_whole : OkD P w K mg base 2 "_law_whole" ["value", "low", "high"] (spD K mg (TLs K) false 3 D__law_whole) := ok__law_whole G o__law_sort
  have o__law_is_number : OkD P w K mg base 3 "_law_is_number" ["ground", "value"] (spD K mg (TLs K) false 2 D__law_is_number) := ok__law_is_number G o__law_divisor o__law_sort o__law_whole
  have o__law_is_row : OkD P w K mg base 4 "_law_is_row" ["ground", "value"] (spD K mg (TLs K) false 2 D__law_is_row) := ok__law_is_row G o__law_is_number o__law_sort
  have o_turned_row : OkD P w K mg base 5 "turned_row" ["ground", "row"] (spD K mg (TLs K) false 2 D_turned_row) := ok_turned_row G o_back_of o_is_nothing o_need_power_row o_negative_of o_number_of o_product_of o_put_row
  have o__law_bent : OkD P w K mg base 10 "_law_bent" ["cup", "value"] (spD K mg (TLs K) true 1 D__law_bent) := ok__law_bent G o__law_roll o__law_some o__law_sort 8
  have o__law_right : OkD P w K mg base 11 "_law_right" ["cup", "ground"] (spD K mg (TLs K) true 1 D__law_right) := ok__law_right G (TB _ (List.mem_map.mpr ⟨("_law_right", none), by simp [tfL], rfl⟩)) (by simp [TLs]) (fun p hp e => by
    simp only [TLs, List.mem_cons, List.not_mem_nil, or_false] at hp
    rcases hp with rfl | rfl
    · rfl
    · exact absurd e.symm G.t__law_right__law_errors_right) o__law_bent o__law_is_row o__law_like o__law_put o__law_roll o__law_row o__law_some o__law_times o__law_whole_of o_is_power_row o_multiplied_rows o_put_into_row o_reciprocal o_turned_row
  have o__law_errors_right : OkD P w K mg base 8 "_law_errors_right" [] (spD K mg (TLs K) false 0 D__law_errors_right) := ok__law_errors_right G (TB _ (List.mem_map.mpr ⟨("_law_errors_right", none), by simp [tfL], rfl⟩)) (by simp [TLs]) (fun p hp e => by
    simp only [TLs, List.mem_cons, List.not_mem_nil, or_false] at hp
    rcases hp with rfl | rfl
    · exact absurd e G.t__law_right__law_errors_right
    · rfl) o_is_power_row o_multiplied_rows o_put_into_row o_reciprocal o_turned_row
  exact ok_law G o__law_cup o__law_errors_right o__law_like o__law_right o__law_some o_multiplied_rows o_put_into_row o_reciprocal o_turned_row math F1
theorem ref_inj {a b : Addr} (h : some (Value.ref a) = some (Value.ref b)) : a = b := by
  cases h
  rfl
end K90

open PySem PySem.W PySem.Calls PyProof.Rows
theorem PySem.Challenge.cw_blendhouse_k90_whole_power_rows_holds : PySem.Challenge.rw_blendhouse_k90_whole_power_rows.Holds := by
  w_on; o_law
  refine HandSHeadRun.head_imp (r := OpenLaw.row PySem.Challenge.rw_blendhouse_k90_whole_power_rows) (q := view (OpenLaw.row PySem.Challenge.rw_blendhouse_k90_whole_power_rows).prog [0, 54]) (H := K90.hk) (ob := K90.ob) (M := 3000) (loose := K90.looseL) (d := HandSHeadRun.topDef (OpenLaw.row PySem.Challenge.rw_blendhouse_k90_whole_power_rows).prog 54) (kwd := []) K90.ob_eq
    K90.run (by kernel_rfl) (by kernel_rfl) (by kernel_rfl) (by rfl) (by first | assumption | decide +kernel) (by decide +kernel) ⟨rfl, rfl, rfl, rfl, rfl, by decide +kernel⟩ ?hw ?hc
  case hw => w_witness2
  case hc =>
    refine LamX.walk_ofTsE (l := PySem.Challenge.rw_blendhouse_k90_whole_power_rows) (n := 63) (k := 12) (x := "script") (CX := fun w => L2N.CX PySem.Challenge.rw_blendhouse_k90_whole_power_rows.prog w) rfl (by decide) (by kernel_rfl) ⟨rfl, by decide, by decide⟩ ?F (fun _ _ _ _ _ z => PL.cx_none z)
    intro w mg fa h Y Gn hmg0
    obtain ⟨K, KX, cx⟩ := Y
    have hmg : mg ("law" : PySem.Str) = some (.ref fa) := by
      have e : (HandSHeadRun.topDef (OpenLaw.row PySem.Challenge.rw_blendhouse_k90_whole_power_rows).prog 54).name = ("law" : PySem.Str) := by kernel_rfl
      rw [← e]
      exact hmg0
    have G := K90.gf_of KX Gn cx
    have efa : fa = He.ga K "law" := K90.ref_inj (hmg.symm.trans G.d_law.g)
    subst efa
    obtain ⟨fd, F1⟩ := G.d_law.fn
    refine ⟨K, KX, fd, K90.tfL.map (He.cT K), PL.spLaw K (K90.TLs K), fun p hp => ?_, fun p hp => ?_, fun p hp => ?_, fun s u => F1.bindsA (ps := ["script"]) K90.bp_law s [u] rfl, fun H a ns hl _ hT hS => ⟨a, ns, rfl, hS, Nat.le_trans hl (by decide), ?_, fun _ => rfl⟩, fun base _ _ TB => K90.chain G TB K90.math F1⟩
    · obtain ⟨x, hx, rfl⟩ := List.mem_map.mp hp
      exact cx.empty x hx
    · obtain ⟨x, hx, rfl⟩ := List.mem_map.mp hp
      exact cx.out x hx
    · obtain ⟨x, hx, rfl⟩ := List.mem_map.mp hp
      exact PySem.W.codeHd_of_K KX (cx.hd x hx)
    · intro p hp
      simp only [K90.TLs, List.mem_cons, List.not_mem_nil, or_false] at hp
      rcases hp with rfl | rfl
      · exact LamX.TabS.nil (hT _ (List.mem_map.mpr ⟨("_law_right", none), by simp [K90.tfL], rfl⟩))
      · exact LamX.TabS.nil (hT _ (List.mem_map.mpr ⟨("_law_errors_right", none), by simp [K90.tfL], rfl⟩))
