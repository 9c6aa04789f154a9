import PyProof.Rows.All
import Wide.All
import OpenK.AllK
import Wide.FinOn
import HandS.ForMost
import HandS.ForExc
import HandS.Wide
import KE.DataEq
import HandS.More
import HandS.Small
import PySem.Challenge.RW_darkpace_k40_neighbours_told
set_option Elab.async false
set_option linter.all false
set_option maxRecDepth 100000
set_option maxHeartbeats 2000000
namespace PL
open PySem PySem.Spec PyProof.Rows L2

/-! ### data without addresses -/
inductive D where
  | non | bl (b : Bool) | int (i : Int) | str (x : Str)
  | tup (xs : List D) | lst (xs : List D)
  | ptr (a : Addr)
  | obj (C : Addr) (fs : List (Str × D))
instance : Inhabited D := ⟨.non⟩
/-- what may change -/
inductive MO where
  | lst (ds : List D)
  | dK (kvs : List (Key × D))
  | ins (C : Addr) (fs : List (Str × D))
abbrev Cells := List (Addr × MO)
abbrev Gam := List (Option D)
abbrev AS := Addr → Prop

def KT (K : PySem.W.Frag) (a : Addr) (xs : List V) : Prop :=
  ∃ (o : Obj) (its : Array Value) (n : Nat), K.lookup a = some o ∧ o.cls = .type "tuple" ∧ o.data = .seq its n ∧ its.size ≤ sizeLine ∧ Vals xs its.toList
def KL (K : PySem.W.Frag) (a : Addr) (xs : List V) : Prop :=
  ∃ (o : Obj) (its : Array Value) (n : Nat), K.lookup a = some o ∧ o.cls = .type "list" ∧ o.dict = none ∧ o.data = .seq its n ∧ its.size ≤ sizeLine ∧ Vals xs its.toList
def RdT (K : PySem.W.Frag) (A : AS) (H : Hp) (a : Addr) (vs : List V) : Prop := (¬ A a ∧ Rd H a (.tup vs)) ∨ KT K a vs
def RdL (K : PySem.W.Frag) (A : AS) (H : Hp) (a : Addr) (vs : List V) : Prop := (¬ A a ∧ Rd H a (.lst vs)) ∨ KL K a vs
theorem RdT.sq {K : PySem.W.Frag} {A : AS} {H : Hp} {a : Addr} {vs : List V} (h : RdT K A H a vs) : SqT K H a vs := by
  rcases h with ⟨_, h⟩ | h
  · exact .inl h
  · exact .inr h
theorem RdL.sq {K : PySem.W.Frag} {A : AS} {H : Hp} {a : Addr} {vs : List V} (h : RdL K A H a vs) : SqL K H a vs := by
  rcases h with ⟨_, h⟩ | h
  · exact .inl h
  · exact .inr h

mutual
inductive Rep (K : PySem.W.Frag) (A : AS) (H : Hp) : V → D → Prop
  | non : Rep K A H .non .non
  | bl {b} : Rep K A H (.bl b) (.bl b)
  | int {i} : Rep K A H (.int i) (.int i)
  | str {x} : Rep K A H (.str x) (.str x)
  | tup {a vs ds} : RdT K A H a vs → Reps K A H vs ds → Rep K A H (.ref a) (.tup ds)
  | lst {a vs ds} : RdL K A H a vs → Reps K A H vs ds → Rep K A H (.ref a) (.lst ds)
  | ptr {a} : Rep K A H (.ref a) (.ptr a)
  | obj {a C dx fs gs} : ¬ A a → H a = some (.ins C dx fs) → RepF K A H fs gs → Rep K A H (.ref a) (.obj C gs)
inductive Reps (K : PySem.W.Frag) (A : AS) (H : Hp) : List V → List D → Prop
  | nil : Reps K A H [] []
  | cons {v d vs ds} : Rep K A H v d → Reps K A H vs ds → Reps K A H (v :: vs) (d :: ds)
inductive RepF (K : PySem.W.Frag) (A : AS) (H : Hp) : List (Str × V) → List (Str × D) → Prop
  | nil : RepF K A H [] []
  | cons {f v d fs gs} : Rep K A H v d → RepF K A H fs gs → RepF K A H ((f, v) :: fs) ((f, d) :: gs)
end

section
variable {K : PySem.W.Frag} {A A' : AS} {H H' : Hp}
/-- how a reading is carried to a later heap -/
structure To (A A' : AS) (H H' : Hp) : Prop where
  keep : ∀ b o, ¬ A b → H b = some o → H' b = some o
  av : ∀ b, A' b → A b ∨ H b = none
theorem To.rdt {a : Addr} {vs : List V} (t : To A A' H H') (h : RdT K A H a vs) : RdT K A' H' a vs := by
  rcases h with ⟨n, h⟩ | h
  · refine .inl ⟨fun z => ?_, ?_⟩
    · rcases t.av a z with q | q
      · exact n q
      · rcases h with h | ⟨o, h⟩ <;> (rw [q] at h; cases h)
    · rcases h with h | ⟨o, h⟩
      · exact .inl (t.keep a _ n h)
      · exact .inr ⟨o, t.keep a _ n h⟩
  · exact .inr h
theorem To.rdl {a : Addr} {vs : List V} (t : To A A' H H') (h : RdL K A H a vs) : RdL K A' H' a vs := by
  rcases h with ⟨n, h⟩ | h
  · refine .inl ⟨fun z => ?_, ?_⟩
    · rcases t.av a z with q | q
      · exact n q
      · rcases h with h | ⟨o, h⟩ <;> (rw [q] at h; cases h)
    · rcases h with h | ⟨o, h⟩
      · exact .inl (t.keep a _ n h)
      · exact .inr ⟨o, t.keep a _ n h⟩
  · exact .inr h
theorem To.ins {a : Addr} {o : HO} (t : To A A' H H') (n : ¬ A a) (h : H a = some o) : ¬ A' a ∧ H' a = some o := by
  refine ⟨fun z => ?_, t.keep a _ n h⟩
  rcases t.av a z with q | q
  · exact n q
  · rw [q] at h; cases h
theorem Rep.to (t : To A A' H H') {v : V} {d : D} (r : Rep K A H v d) : Rep K A' H' v d :=
  Rep.rec (motive_1 := fun v d _ => Rep K A' H' v d) (motive_2 := fun vs ds _ => Reps K A' H' vs ds) (motive_3 := fun vs ds _ => RepF K A' H' vs ds)
    .non .bl .int .str (fun h _ ih => .tup (t.rdt h) ih) (fun h _ ih => .lst (t.rdl h) ih) .ptr (fun n h _ ih => .obj (t.ins n h).1 (t.ins n h).2 ih)
    .nil (fun _ _ i1 i2 => .cons i1 i2) .nil (fun _ _ i1 i2 => .cons i1 i2) r
theorem Reps.to (t : To A A' H H') : ∀ {vs : List V} {ds : List D}, Reps K A H vs ds → Reps K A' H' vs ds
  | _, _, .nil => .nil
  | _, _, .cons r rs => .cons (r.to t) (rs.to t)
theorem RepF.to (t : To A A' H H') : ∀ {vs : List (Str × V)} {ds : List (Str × D)}, RepF K A H vs ds → RepF K A' H' vs ds
  | _, _, .nil => .nil
  | _, _, .cons r rs => .cons (r.to t) (rs.to t)
theorem Reps.length : ∀ {vs : List V} {ds : List D}, Reps K A H vs ds → vs.length = ds.length
  | _, _, .nil => rfl
  | _, _, .cons _ rs => by rw [List.length_cons, List.length_cons, rs.length]
theorem Reps.get : ∀ {vs : List V} {ds : List D} {i : Nat} {d : D}, Reps K A H vs ds → ds[i]? = some d → ∃ v, vs[i]? = some v ∧ Rep K A H v d
  | _, _, _, _, .nil, e => by simp at e
  | _, _, 0, _, .cons r _, e => by
    have q := Option.some.inj e
    subst q
    exact ⟨_, rfl, r⟩
  | _, _, i + 1, d, .cons _ rs, e => Reps.get (i := i) rs e
theorem Reps.getV : ∀ {vs : List V} {ds : List D} {i : Nat} {v : V}, Reps K A H vs ds → vs[i]? = some v → ∃ d, ds[i]? = some d ∧ Rep K A H v d
  | _, _, _, _, .nil, e => by simp at e
  | _, _, 0, _, .cons r _, e => by
    have q := Option.some.inj e
    subst q
    exact ⟨_, rfl, r⟩
  | _, _, i + 1, d, .cons _ rs, e => Reps.getV (i := i) rs e
theorem Reps.append : ∀ {vs ws : List V} {ds es : List D}, Reps K A H vs ds → Reps K A H ws es → Reps K A H (vs ++ ws) (ds ++ es)
  | _, _, _, _, .nil, s => s
  | _, _, _, _, .cons r rs, s => .cons r (rs.append s)
theorem Reps.set : ∀ {vs : List V} {ds : List D} {v : V} {d : D} (i : Nat), Reps K A H vs ds → Rep K A H v d → Reps K A H (vs.set i v) (ds.set i d)
  | _, _, _, _, _, .nil, _ => .nil
  | _, _, _, _, 0, .cons _ rs, q => .cons q rs
  | _, _, _, _, i + 1, .cons r rs, q => .cons r (rs.set i q)
theorem Reps.eraseIdx : ∀ {vs : List V} {ds : List D} (i : Nat), Reps K A H vs ds → Reps K A H (vs.eraseIdx i) (ds.eraseIdx i)
  | _, _, _, .nil => .nil
  | _, _, 0, .cons _ rs => rs
  | _, _, i + 1, .cons r rs => .cons r (rs.eraseIdx i)
theorem Reps.take : ∀ {vs : List V} {ds : List D} (i : Nat), Reps K A H vs ds → Reps K A H (vs.take i) (ds.take i)
  | _, _, 0, _ => .nil
  | _, _, i + 1, .nil => .nil
  | _, _, i + 1, .cons r rs => .cons r (rs.take i)
theorem Reps.drop : ∀ {vs : List V} {ds : List D} (i : Nat), Reps K A H vs ds → Reps K A H (vs.drop i) (ds.drop i)
  | _, _, 0, r => r
  | _, _, i + 1, .nil => .nil
  | _, _, i + 1, .cons r rs => rs.drop i
theorem Reps.ints : ∀ {vs : List V} {ns : List Int}, Reps K A H vs (ns.map D.int) → vs = ns.map V.int
  | _, [], .nil => rfl
  | _, n :: ns, .cons r rs => by
    cases r
    rw [List.map_cons, rs.ints]
theorem Reps.of_ints : ∀ (ns : List Int), Reps K A H (ns.map V.int) (ns.map D.int)
  | [] => .nil
  | n :: ns => .cons .int (Reps.of_ints ns)
theorem Reps.bls : ∀ {vs : List V} {ns : List Bool}, Reps K A H vs (ns.map D.bl) → vs = ns.map V.bl
  | _, [], .nil => rfl
  | _, n :: ns, .cons r rs => by
    cases r
    rw [List.map_cons, rs.bls]

/-! ### cells -/
def dom (M : Cells) : List Addr := M.map (·.1)
def av (S : AS) (M : Cells) : AS := fun a => S a ∨ a ∈ dom M
inductive RepK (K : PySem.W.Frag) (A : AS) (H : Hp) : List (Key × V) → List (Key × D) → Prop
  | nil : RepK K A H [] []
  | cons {k v d vs ds} : Rep K A H v d → RepK K A H vs ds → RepK K A H ((k, v) :: vs) ((k, d) :: ds)
theorem RepK.to (t : To A A' H H') : ∀ {vs : List (Key × V)} {ds : List (Key × D)}, RepK K A H vs ds → RepK K A' H' vs ds
  | _, _, .nil => .nil
  | _, _, .cons r rs => .cons (r.to t) (rs.to t)
def CellOf (K : PySem.W.Frag) (A : AS) (H : Hp) (o : HO) : MO → Prop
  | .lst ds => ∃ vs, o = .lst vs ∧ Reps K A H vs ds
  | .dK kvs => ∃ vs, o = .dK vs ∧ RepK K A H vs kvs
  | .ins C fs => ∃ dx vs, o = .ins C dx vs ∧ RepF K A H vs fs
def CellAt (K : PySem.W.Frag) (A : AS) (H : Hp) (a : Addr) (m : MO) : Prop := ∃ o, H a = some o ∧ CellOf K A H o m
theorem CellAt.ne {a : Addr} {m : MO} (c : CellAt K A H a m) : H a ≠ none := by
  obtain ⟨o, h, _⟩ := c
  rw [h]
  exact fun z => by cases z
theorem CellOf.to (t : To A A' H H') {o : HO} {m : MO} (c : CellOf K A H o m) : CellOf K A' H' o m := by
  cases m with
  | lst ds => obtain ⟨vs, h, r⟩ := c; exact ⟨vs, h, r.to t⟩
  | dK ds => obtain ⟨vs, h, r⟩ := c; exact ⟨vs, h, r.to t⟩
  | ins C ds => obtain ⟨dx, vs, h, r⟩ := c; exact ⟨dx, vs, h, r.to t⟩
theorem CellOf.mut {o : HO} {m : MO} (c : CellOf K A H o m) : Mut (some o) := by
  cases m with
  | lst ds => obtain ⟨vs, rfl, _⟩ := c; trivial
  | dK ds => obtain ⟨vs, rfl, _⟩ := c; trivial
  | ins C ds => obtain ⟨dx, vs, rfl, _⟩ := c; trivial
theorem CellAt.to (t : To A A' H H') {a : Addr} {m : MO} (k : ∀ o, H a = some o → H' a = some o) (c : CellAt K A H a m) : CellAt K A' H' a m := by
  obtain ⟨o, h, r⟩ := c
  exact ⟨o, k _ h, r.to t⟩

structure Core (K : PySem.W.Frag) (S : AS) (M : Cells) (H : Hp) : Prop where
  known : ∀ b, S b → H b ≠ none
  nod : (dom M).Nodup
  dis : ∀ a ∈ dom M, ¬ S a
  cells : ∀ p ∈ M, CellAt K (av S M) H p.1 p.2
structure Step (M M' : Cells) (H H' : Hp) : Prop where
  keep : ∀ b o, b ∉ dom M → H b = some o → H' b = some o
  grow : ∀ b, H b ≠ none → H' b ≠ none
  fresh : ∀ b ∈ dom M', b ∈ dom M ∨ H b = none
structure Slots (K : PySem.W.Frag) (A : AS) (H : Hp) (Γ : Gam) (σ : L2.St) : Prop where
  len : Γ.length = σ.length
  at_ : ∀ (i : Nat) (d : D), Γ[i]? = some (some d) → ∃ v : V, σ[i]? = some (some v) ∧ Rep K A H v d
end
section
variable {K : PySem.W.Frag} {S : AS} {M M1 M2 : Cells} {H H1 H2 : Hp} {Γ : Gam} {σ : L2.St}
theorem Step.refl : Step M M H H := ⟨fun _ _ _ h => h, fun _ h => h, fun _ h => .inl h⟩
theorem Step.trans (a : Step M M1 H H1) (b : Step M1 M2 H1 H2) : Step M M2 H H2 where
  keep := fun x o n h => by
    refine b.keep x o (fun z => ?_) (a.keep x o n h)
    rcases a.fresh x z with q | q
    · exact n q
    · rw [q] at h; cases h
  grow := fun x h => b.grow x (a.grow x h)
  fresh := fun x h => by
    rcases b.fresh x h with q | q
    · exact a.fresh x q
    · by_cases e : H x = none
      · exact .inr e
      · exact absurd q (a.grow x e)
theorem Step.to (a : Step M M1 H H1) : To (av S M) (av S M1) H H1 where
  keep := fun b o n h => a.keep b o (fun z => n (.inr z)) h
  av := fun b z => by
    rcases z with z | z
    · exact .inl (.inl z)
    · rcases a.fresh b z with q | q
      · exact .inl (.inr q)
      · exact .inr q
/-- everything stands, something new besides -/
theorem Step.same (s : Same H H1) : Step M M H H1 := by
  refine ⟨fun b o _ h => s b o h, fun b h => ?_, fun _ h => .inl h⟩
  cases e : H b with
  | none => exact absurd e h
  | some o =>
    rw [s b o e]
    exact fun z => by cases z
theorem Core.to (c : Core K S M H) (s : Same H H1) : Core K S M H1 :=
  ⟨fun b z => (Step.same (M := M) s).grow b (c.known b z), c.nod, c.dis, fun p hp => CellAt.to (Step.same s).to (fun o h => s _ o h) (c.cells p hp)⟩
theorem Slots.to {A A' : AS} (t : To A A' H H1) (s : Slots K A H Γ σ) : Slots K A' H1 Γ σ :=
  ⟨s.len, fun i d e => let ⟨v, h, r⟩ := s.at_ i d e; ⟨v, h, r.to t⟩⟩
theorem Slots.set {A : AS} (s : Slots K A H Γ σ) {i : Nat} {v : V} {d : D} (r : Rep K A H v d) : Slots K A H (Γ.set i (some d)) (σ.set i (some v)) := by
  refine ⟨by simp [s.len], fun j e h => ?_⟩
  by_cases hij : i = j
  · subst hij
    by_cases hi : i < Γ.length
    · rw [List.getElem?_set_self hi] at h
      have q := Option.some.inj (Option.some.inj h)
      subst q
      exact ⟨v, List.getElem?_set_self (by rw [← s.len]; exact hi), r⟩
    · rw [List.set_eq_of_length_le (by omega)] at h
      rw [List.getElem?_eq_none (by omega)] at h
      cases h
  · rw [List.getElem?_set_ne hij] at h
    obtain ⟨w, hw, rw'⟩ := s.at_ j e h
    exact ⟨w, by rw [List.getElem?_set_ne hij]; exact hw, rw'⟩
theorem Slots.wipe {A : AS} (s : Slots K A H Γ σ) {i : Nat} : Slots K A H (Γ.set i none) σ := by
  refine ⟨by simp [s.len], fun j e h => ?_⟩
  by_cases hij : i = j
  · subst hij
    by_cases hi : i < Γ.length
    · rw [List.getElem?_set_self hi] at h
      cases h
    · rw [List.set_eq_of_length_le (by omega)] at h
      exact s.at_ i e h
  · rw [List.getElem?_set_ne hij] at h
    exact s.at_ j e h
end
end PL
namespace PL
open PySem PySem.Spec PyProof.Rows L2

/-! ### canonical readings -/
def wE (X : Cx) (e : Expr) : TE := fun σ H Q => ∀ pins s, Inv X pins σ H s → wpAny (model X.prog X.w) X.A (eval e X.env) (EP X pins σ Q) X.xe s
def wT (X : Cx) (e : Expr) : TT := fun σ H Q => ∀ pins s, Inv X pins σ H s → wpAny (model X.prog X.w) X.A (isTrue e X.env (eval e X.env)) (TP X pins σ Q) X.xe s
def wW (X : Cx) (e : Expr) : TT := fun σ H Q => ∀ whole pins s, Inv X pins σ H s → wpAny (model X.prog X.w) X.A (isTrue e X.env whole) (TP X pins σ Q) X.xe s
def wA (X : Cx) (es : List Expr) : TA := fun σ H Q => ∀ pos pins s, Inv X pins σ H s → wpAny (model X.prog X.w) X.A (spliced (backTo pos (starEach es X.env))) (AP X pins σ Q) X.xe s
def wS (X : Cx) (st : Stmt) : TS := fun D σ H => ∀ pins s, Inv X pins σ H s → wpAny (model X.prog X.w) X.A (exec st X.env) (SP X pins D) X.xe s
def wSs (X : Cx) (st : List Stmt) : TS := fun D σ H => ∀ pins s, Inv X pins σ H s → wpAny (model X.prog X.w) X.A (execs st X.env) (SP X pins D) X.xe s
def wG (X : Cx) (tg : Expr) : TG := fun v σ H Q => ∀ pins s u, Inv X pins σ H s → RelV v u → wpAny (model X.prog X.w) X.A (assign tg X.env u) (fun _ s' => ∃ σ' H', Inv X pins σ' H' s' ∧ Q σ' H') X.xe s
section
variable {X : Cx} {e : Expr} {es : List Expr} {st : Stmt} {sts : List Stmt}
theorem wE.pe : PE X e (wE X e) := ⟨fun pins s σ H Q I h => h pins s I⟩
theorem wT.pt : PT X e (wT X e) := ⟨fun pins s σ H Q I h => h pins s I⟩
theorem wW.pw : PW X e (wW X e) := ⟨fun wh pins s σ H Q I h => h wh pins s I⟩
theorem wA.pa : PA X es (wA X es) := ⟨fun pos pins s σ H Q I h => h pos pins s I⟩
theorem wS.ps : PS X st (wS X st) := ⟨fun pins s σ H D I h => h pins s I⟩
theorem wSs.pss : PSs X sts (wSs X sts) := ⟨fun pins s σ H D I h => h pins s I⟩
theorem wG.pg : PG X e (wG X e) := ⟨fun pins s σ H v u Q I r h => h pins s u I r⟩
theorem PE.to {t : TE} {σ H Q} (h : PE X e t) (q : t σ H Q) : wE X e σ H Q := fun pins s I => h.run pins s σ H Q I q
theorem PT.to {t : TT} {σ H Q} (h : PT X e t) (q : t σ H Q) : wT X e σ H Q := fun pins s I => h.run pins s σ H Q I q
theorem PW.to {t : TT} {σ H Q} (h : PW X e t) (q : t σ H Q) : wW X e σ H Q := fun wh pins s I => h.run wh pins s σ H Q I q
theorem PA.to {t : TA} {σ H Q} (h : PA X es t) (q : t σ H Q) : wA X es σ H Q := fun pos pins s I => h.run pos pins s σ H Q I q
theorem PS.to {t : TS} {σ H D} (h : PS X st t) (q : t D σ H) : wS X st D σ H := fun pins s I => h.run pins s σ H D I q
theorem PSs.to {t : TS} {σ H D} (h : PSs X sts t) (q : t D σ H) : wSs X sts D σ H := fun pins s I => h.run pins s σ H D I q
theorem PG.to {t : TG} {v σ H Q} (h : PG X e t) (q : t v σ H Q) : wG X e v σ H Q := fun pins s u I r => h.run pins s σ H v u Q I r q
end

/-! ### the context, by what is known of it -/
structure Ctx where
  P : Program
  w : World
  K : PySem.W.Frag
  mg : Str → Option Value
  base : Heap
  N : List Str
  sc : Scope
  k : Nat
  Z : Addr → D → Gam → Cells → Prop
structure Ctx.Is (c : Ctx) (X : Cx) : Prop where
  prog : X.prog = c.P
  w : X.w = c.w
  K : X.K = c.K
  mg : X.mg = c.mg
  base : X.base = c.base
  N : X.N = c.N
  sc : X.env.scope = c.sc
  room : Room c.k X.A
  calm : X.calm = true
  nd : X.N.Nodup
  fn : ∀ x, c.sc.names.lookup x = some .cell → X.fn x = true
  po : PassesOwn (model X.prog X.w) X.A X.env X.xe
/-- what may be raised: where it lands -/
def Land (c : Ctx) (X : Cx) (S : AS) (M : Cells) (H : Hp) : Prop :=
  ∃ W : WX, Takes X W ∧ ∀ C dd v d σ' H' Γ' M', Core c.K S M' H' → Slots c.K (av S M') H' Γ' σ' → Step M M' H H' → H' dd = some (.xd [(("what" : Str), v)]) → Rep c.K (av S M') H' v d → c.Z C d Γ' M' → W (.ref C) (some dd) σ' H'
structure At (c : Ctx) (X : Cx) (S : AS) (Γ : Gam) (M : Cells) (σ : L2.St) (H : Hp) : Prop where
  is : c.Is X
  core : Core c.K S M H
  slots : Slots c.K (av S M) H Γ σ
  land : Land c X S M H
section
variable {c : Ctx} {X : Cx} {S : AS} {Γ Γ' : Gam} {M M' : Cells} {σ σ' : L2.St} {H H' : Hp}
theorem Land.step (l : Land c X S M H) (s : Step M M' H H') : Land c X S M' H' := by
  obtain ⟨W, tk, h⟩ := l
  exact ⟨W, tk, fun C dd v d σ2 H2 Γ2 M2 hc hs st => h C dd v d σ2 H2 Γ2 M2 hc hs (s.trans st)⟩
theorem At.step (a : At c X S Γ M σ H) (hc : Core c.K S M' H') (s : Step M M' H H') : At c X S Γ M' σ H' :=
  ⟨a.is, hc, a.slots.to s.to, a.land.step s⟩
theorem At.slot (a : At c X S Γ M σ H) (hc : Core c.K S M' H') (hs : Slots c.K (av S M') H' Γ' σ') (s : Step M M' H H') : At c X S Γ' M' σ' H' :=
  ⟨a.is, hc, hs, a.land.step s⟩
end

/-! ### judgements -/
structure WE (c : Ctx) (e : Expr) (Γ : Gam) (M : Cells) (Q : D → Cells → Prop) : Prop where
  run : ∀ X S σ H, At c X S Γ M σ H → ∀ Q' : VK, (∀ v H' d M', Core c.K S M' H' → Step M M' H H' → Rep c.K (av S M') H' v d → Q d M' → Q' v H') → wE X e σ H Q'
structure WT (c : Ctx) (e : Expr) (Γ : Gam) (M : Cells) (Q : Bool → Cells → Prop) : Prop where
  run : ∀ X S σ H, At c X S Γ M σ H → ∀ Q' : Bool → Hp → Prop, (∀ b H' M', Core c.K S M' H' → Step M M' H H' → Q b M' → Q' b H') → wT X e σ H Q'
structure WW (c : Ctx) (e : Expr) (Γ : Gam) (M : Cells) (Q : Bool → Cells → Prop) : Prop where
  run : ∀ X S σ H, At c X S Γ M σ H → ∀ Q' : Bool → Hp → Prop, (∀ b H' M', Core c.K S M' H' → Step M M' H H' → Q b M' → Q' b H') → wW X e σ H Q'
structure WA (c : Ctx) (es : List Expr) (Γ : Gam) (M : Cells) (Q : List D → Cells → Prop) : Prop where
  run : ∀ X S σ H, At c X S Γ M σ H → ∀ Q' : List V → Hp → Prop, (∀ vs H' ds M', Core c.K S M' H' → Step M M' H H' → Reps c.K (av S M') H' vs ds → Q ds M' → Q' vs H') → wA X es σ H Q'
structure PEnds where
  nx : Gam → Cells → Prop
  rt : D → Cells → Prop
  bk : Gam → Cells → Prop := fun _ _ => False
  ct : Gam → Cells → Prop := fun _ _ => False
structure Lift (c : Ctx) (S : AS) (M : Cells) (H : Hp) (E : PEnds) (Ds : Ends) : Prop where
  nx : ∀ σ' H' Γ' M', Core c.K S M' H' → Slots c.K (av S M') H' Γ' σ' → Step M M' H H' → E.nx Γ' M' → Ds.nx σ' H'
  rt : ∀ v H' d M', Core c.K S M' H' → Step M M' H H' → Rep c.K (av S M') H' v d → E.rt d M' → Ds.rt v H'
  bk : ∀ σ' H' Γ' M', Core c.K S M' H' → Slots c.K (av S M') H' Γ' σ' → Step M M' H H' → E.bk Γ' M' → Ds.bk σ' H'
  ct : ∀ σ' H' Γ' M', Core c.K S M' H' → Slots c.K (av S M') H' Γ' σ' → Step M M' H H' → E.ct Γ' M' → Ds.ct σ' H'
theorem Lift.step {c : Ctx} {S : AS} {M M' : Cells} {H H' : Hp} {E : PEnds} {Ds : Ends} (l : Lift c S M H E Ds) (s : Step M M' H H') : Lift c S M' H' E Ds :=
  ⟨fun σ2 H2 Γ2 M2 h1 h2 h3 => l.nx σ2 H2 Γ2 M2 h1 h2 (s.trans h3), fun v2 H2 d2 M2 h1 h3 => l.rt v2 H2 d2 M2 h1 (s.trans h3),
   fun σ2 H2 Γ2 M2 h1 h2 h3 => l.bk σ2 H2 Γ2 M2 h1 h2 (s.trans h3), fun σ2 H2 Γ2 M2 h1 h2 h3 => l.ct σ2 H2 Γ2 M2 h1 h2 (s.trans h3)⟩
structure WS (c : Ctx) (st : Stmt) (E : PEnds) (Γ : Gam) (M : Cells) : Prop where
  run : ∀ X S σ H, At c X S Γ M σ H → ∀ Ds : Ends, Lift c S M H E Ds → wS X st Ds σ H
structure WSs (c : Ctx) (sts : List Stmt) (E : PEnds) (Γ : Gam) (M : Cells) : Prop where
  run : ∀ X S σ H, At c X S Γ M σ H → ∀ Ds : Ends, Lift c S M H E Ds → wSs X sts Ds σ H
structure WG (c : Ctx) (tg : Expr) (d : D) (Γ : Gam) (M : Cells) (E : Gam → Cells → Prop) : Prop where
  run : ∀ X S σ H, At c X S Γ M σ H → ∀ v, Rep c.K (av S M) H v d → ∀ Q' : L2.St → Hp → Prop, (∀ σ' H' Γ' M', Core c.K S M' H' → Slots c.K (av S M') H' Γ' σ' → Step M M' H H' → E Γ' M' → Q' σ' H') → wG X tg v σ H Q'
def VisC (sc : Scope) (x : Str) : Prop := sc.names.lookup x = some .local ∨ sc.names.lookup x = some .cell ∨ sc.names.lookup x = some .free
def LocC (sc : Scope) (x : Str) : Prop := sc.names.lookup x = some .local ∨ sc.names.lookup x = some .cell
def GlC (sc : Scope) (x : Str) : Prop := sc.names.lookup x = some .globalImplicit
section
variable {c : Ctx} {X : Cx} {S : AS} {Γ Γ' : Gam} {M M' : Cells} {σ σ' : L2.St} {H H' : Hp} {a b e : Expr} {es : List Expr} {pos pos' : Pos} {Q : D → Cells → Prop} {R : Bool → Cells → Prop} {x : Str}
theorem Ctx.Is.gl (i : c.Is X) (h : GlC c.sc x) : Gl X x := by
  have e : X.env.scope.names.lookup x = some .globalImplicit := by rw [i.sc]; exact h
  exact e
theorem Ctx.Is.loc (i : c.Is X) (h : LocC c.sc x) : Loc X.env.scope x := by rw [i.sc]; exact h
theorem Ctx.Is.vis (i : c.Is X) (h : VisC c.sc x) : Vis X.env.scope x := by rw [i.sc]; exact h
theorem Ctx.Is.st (i : c.Is X) (h : LocC c.sc x) : X.fn x = true ∨ X.env.scope.names.lookup x = some .local := by
  rcases h with h | h
  · exact .inr (by rw [i.sc]; exact h)
  · exact .inl (i.fn x h)
theorem Ctx.Is.hu (i : c.Is X) : X.A.units + 64 < cLine := i.room.units
theorem Ctx.Is.nm {i : Nat} (is : c.Is X) (h : c.N[i]? = some x) : X.N[i]? = some x := by rw [is.N]; exact h
theorem Ctx.Is.mgN (is : c.Is X) {o : Option Value} (h : c.mg x = o) : X.mg x = o := by rw [is.mg]; exact h

/-! ### constants, names -/
theorem we_var {i : Nat} {d : D} (hN : c.N[i]? = some x) (hv : VisC c.sc x) (hΓ : Γ[i]? = some (some d)) (q : Q d M) (hd : (x == ("__debug__" : Str)) = false := by decide) (hcd : (x == ("__classdict__" : Str)) = false := by decide) : WE c (.Name x pos) Γ M Q := .mk fun X S σ H at_ Q' hq => by
  obtain ⟨v, hs, r⟩ := at_.slots.at_ i d hΓ
  exact PE.to (pe_var (at_.is.nm hN) (at_.is.vis hv) hd hcd) ⟨v, hs, hq v H d M at_.core .refl r q⟩
theorem we_int {i : Int} {j : Nat} (q : Q (.int i) M) : WE c (.Constant (.int i) j pos) Γ M Q := .mk fun X S σ H at_ Q' hq =>
  PE.to pe_int (hq _ _ _ _ at_.core .refl .int q)
theorem we_bl {i : Bool} {j : Nat} (q : Q (.bl i) M) : WE c (.Constant (.bool i) j pos) Γ M Q := .mk fun X S σ H at_ Q' hq =>
  PE.to pe_bl (hq _ _ _ _ at_.core .refl .bl q)
theorem we_non {j : Nat} (q : Q .non M) : WE c (.Constant .none j pos) Γ M Q := .mk fun X S σ H at_ Q' hq =>
  PE.to pe_non (hq _ _ _ _ at_.core .refl .non q)
theorem we_str {i : Str} {j : Nat} (q : Q (.str i) M) : WE c (.Constant (.str i) j pos) Γ M Q := .mk fun X S σ H at_ Q' hq =>
  PE.to pe_str (hq _ _ _ _ at_.core .refl .str q)

/-! ### operators -/
theorem two {T : V → V → Hp → Prop} {R : D → D → Cells → Prop} (h : WE c a Γ M fun x M1 => WE c b Γ M1 fun y M2 => R x y M2) (at_ : At c X S Γ M σ H)
    (hT : ∀ v1 v2 H2 d1 d2 M2, Core c.K S M2 H2 → Step M M2 H H2 → Rep c.K (av S M2) H2 v1 d1 → Rep c.K (av S M2) H2 v2 d2 → R d1 d2 M2 → T v1 v2 H2) :
    wE X a σ H fun x H1 => wE X b σ H1 fun y H2 => T x y H2 :=
  h.run X S σ H at_ _ fun v1 H1 d1 M1 c1 s1 r1 q1 => q1.run X S σ H1 (at_.step c1 s1) _ fun v2 H2 d2 M2 c2 s2 r2 q2 => hT v1 v2 H2 d1 d2 M2 c2 (s1.trans s2) (r1.to s2.to) r2 q2
theorem we_opI {op : Operator} {C : Int → Int → Prop} {g : Int → Int → Int} (ho : ∀ X : Cx, OpR X (binaryOp op) (rI C fun i j => .int (g i j)))
    (h : WE c a Γ M fun x M1 => WE c b Γ M1 fun y M2 => ∃ i j, x = .int i ∧ y = .int j ∧ C i j ∧ Q (.int (g i j)) M2) : WE c (.BinOp a op b pos) Γ M Q := .mk fun X S σ H at_ Q' hq =>
  PE.to (pe_op (ho X) wE.pe wE.pe) (two h at_ fun v1 v2 H2 d1 d2 M2 c2 s2 r1 r2 ⟨i, j, e1, e2, hc, q⟩ => by
    subst e1 e2; cases r1; cases r2
    exact ⟨i, j, rfl, rfl, hc, hq _ _ _ _ c2 s2 .int q⟩)
theorem we_op0 {op : Operator} {g : Int → Int → Int} (ho : ∀ X : Cx, OpR X (binaryOp op) (rI0 fun i j => .int (g i j)))
    (h : WE c a Γ M fun x M1 => WE c b Γ M1 fun y M2 => ∃ i j, x = .int i ∧ y = .int j ∧ Q (.int (g i j)) M2) : WE c (.BinOp a op b pos) Γ M Q := .mk fun X S σ H at_ Q' hq =>
  PE.to (pe_op (ho X) wE.pe wE.pe) (two h at_ fun v1 v2 H2 d1 d2 M2 c2 s2 r1 r2 ⟨i, j, e1, e2, q⟩ => by
    subst e1 e2; cases r1; cases r2
    exact ⟨i, j, rfl, rfl, hq _ _ _ _ c2 s2 .int q⟩)
theorem we_add (h : WE c a Γ M fun x M1 => WE c b Γ M1 fun y M2 => ∃ i j, x = .int i ∧ y = .int j ∧ Q (.int (i + j)) M2) : WE c (.BinOp a .Add b pos) Γ M Q := we_op0 (fun X => op_add) h
theorem we_sub (h : WE c a Γ M fun x M1 => WE c b Γ M1 fun y M2 => ∃ i j, x = .int i ∧ y = .int j ∧ Q (.int (i - j)) M2) : WE c (.BinOp a .Sub b pos) Γ M Q := we_op0 (fun X => op_sub) h
theorem we_mul (h : WE c a Γ M fun x M1 => WE c b Γ M1 fun y M2 => ∃ i j, x = .int i ∧ y = .int j ∧ CMulW i j ∧ Q (.int (i * j)) M2) : WE c (.BinOp a .Mult b pos) Γ M Q := we_opI (fun X => op_mulW) h
theorem we_div (h : WE c a Γ M fun x M1 => WE c b Γ M1 fun y M2 => ∃ i j, x = .int i ∧ y = .int j ∧ CDivW i j ∧ Q (.int (i / j)) M2) : WE c (.BinOp a .FloorDiv b pos) Γ M Q := we_opI (fun X => op_fdivW) h
theorem we_mod (h : WE c a Γ M fun x M1 => WE c b Γ M1 fun y M2 => ∃ i j, x = .int i ∧ y = .int j ∧ 0 < j ∧ Q (.int (i % j)) M2) : WE c (.BinOp a .Mod b pos) Γ M Q := we_opI (C := fun _ j => 0 < j) (fun X => op_mod) h
theorem we_pow (h : WE c a Γ M fun x M1 => WE c b Γ M1 fun y M2 => ∃ i j, x = .int i ∧ y = .int j ∧ CPow i j ∧ Q (.int (i ^ j.toNat)) M2) : WE c (.BinOp a .Pow b pos) Γ M Q := we_opI (fun X => op_pow) h
theorem we_neg (h : WE c a Γ M fun x M1 => ∃ i, x = .int i ∧ Q (.int (-i)) M1) : WE c (.UnaryOp .USub a pos) Γ M Q := .mk fun X S σ H at_ Q' hq =>
  PE.to (pe_un un_neg wE.pe) (h.run X S σ H at_ _ fun v1 H1 d1 M1 c1 s1 r1 ⟨i, e1, q⟩ => by
    subst e1; cases r1
    exact ⟨i, rfl, hq _ _ _ _ c1 s1 .int q⟩)

/-! ### comparisons -/
theorem we_cmpI {op : CmpOp} {p : Int → Int → Bool} (ho : ∀ X : Cx, OpR X (compareOp op) (rI0 fun i j => .bl (p i j))) (hm : behindInMarks op b = false)
    (h : WE c a Γ M fun x M1 => WE c b Γ M1 fun y M2 => ∃ i j, x = .int i ∧ y = .int j ∧ Q (.bl (p i j)) M2) : WE c (.Compare a [op] [b] pos) Γ M Q := .mk fun X S σ H at_ Q' hq =>
  PE.to (pe_cmpR (ho X) wE.pe wE.pe hm) (two h at_ fun v1 v2 H2 d1 d2 M2 c2 s2 r1 r2 ⟨i, j, e1, e2, q⟩ => by
    subst e1 e2; cases r1; cases r2
    exact ⟨i, j, rfl, rfl, hq _ _ _ _ c2 s2 .bl q⟩)
theorem wt_cmpI {op : CmpOp} {p : Int → Int → Bool} (ho : ∀ X : Cx, OpR X (compareOp op) (rI0 fun i j => .bl (p i j))) (hm : behindInMarks op b = false)
    (h : WE c a Γ M fun x M1 => WE c b Γ M1 fun y M2 => ∃ i j, x = .int i ∧ y = .int j ∧ R (p i j) M2) : WT c (.Compare a [op] [b] pos) Γ M R := .mk fun X S σ H at_ Q' hq =>
  PT.to (pt_cmpR (ho X) wE.pe wE.pe hm) (two h at_ fun v1 v2 H2 d1 d2 M2 c2 s2 r1 r2 ⟨i, j, e1, e2, q⟩ => by
    subst e1 e2; cases r1; cases r2
    exact ⟨i, j, rfl, rfl, _, rfl, hq _ _ _ c2 s2 q⟩)
theorem wt_lt (h : WE c a Γ M fun x M1 => WE c b Γ M1 fun y M2 => ∃ i j, x = .int i ∧ y = .int j ∧ R (decide (i < j)) M2) : WT c (.Compare a [.Lt] [b] pos) Γ M R := wt_cmpI (fun X => op_lt) (nomark _) h
theorem wt_le (h : WE c a Γ M fun x M1 => WE c b Γ M1 fun y M2 => ∃ i j, x = .int i ∧ y = .int j ∧ R (decide (i ≤ j)) M2) : WT c (.Compare a [.LtE] [b] pos) Γ M R := wt_cmpI (fun X => op_le) (nomark _) h
theorem wt_gt (h : WE c a Γ M fun x M1 => WE c b Γ M1 fun y M2 => ∃ i j, x = .int i ∧ y = .int j ∧ R (decide (j < i)) M2) : WT c (.Compare a [.Gt] [b] pos) Γ M R := wt_cmpI (fun X => op_gt) (nomark _) h
theorem wt_ge (h : WE c a Γ M fun x M1 => WE c b Γ M1 fun y M2 => ∃ i j, x = .int i ∧ y = .int j ∧ R (decide (j ≤ i)) M2) : WT c (.Compare a [.GtE] [b] pos) Γ M R := wt_cmpI (fun X => op_ge) (nomark _) h
theorem we_lt (h : WE c a Γ M fun x M1 => WE c b Γ M1 fun y M2 => ∃ i j, x = .int i ∧ y = .int j ∧ Q (.bl (decide (i < j))) M2) : WE c (.Compare a [.Lt] [b] pos) Γ M Q := we_cmpI (fun X => op_lt) (nomark _) h
theorem we_le (h : WE c a Γ M fun x M1 => WE c b Γ M1 fun y M2 => ∃ i j, x = .int i ∧ y = .int j ∧ Q (.bl (decide (i ≤ j))) M2) : WE c (.Compare a [.LtE] [b] pos) Γ M Q := we_cmpI (fun X => op_le) (nomark _) h
theorem we_gt (h : WE c a Γ M fun x M1 => WE c b Γ M1 fun y M2 => ∃ i j, x = .int i ∧ y = .int j ∧ Q (.bl (decide (j < i))) M2) : WE c (.Compare a [.Gt] [b] pos) Γ M Q := we_cmpI (fun X => op_gt) (nomark _) h
theorem we_ge (h : WE c a Γ M fun x M1 => WE c b Γ M1 fun y M2 => ∃ i j, x = .int i ∧ y = .int j ∧ Q (.bl (decide (j ≤ i))) M2) : WE c (.Compare a [.GtE] [b] pos) Γ M Q := we_cmpI (fun X => op_ge) (nomark _) h
def D.isNon : D → Bool
  | .non => true
  | _ => false
theorem Rep.isNon {K A H v d} (r : Rep K A H v d) : decide (v = .non) = d.isNon := by
  cases r <;> rfl
theorem we_isN {j : Nat} {p2 : Pos} (h : WE c a Γ M fun x M1 => Q (.bl x.isNon) M1) : WE c (.Compare a [.Is] [.Constant .none j p2] pos) Γ M Q := .mk fun X S σ H at_ Q' hq =>
  PE.to (pe_cmp (pc_isN wE.pe)) (h.run X S σ H at_ _ fun v1 H1 d1 M1 c1 s1 r1 q => by
    show Q' (.bl (decide (v1 = .non))) H1
    rw [r1.isNon]
    exact hq _ _ _ _ c1 s1 .bl q)
theorem we_notN {j : Nat} {p2 : Pos} (h : WE c a Γ M fun x M1 => Q (.bl (!x.isNon)) M1) : WE c (.Compare a [.IsNot] [.Constant .none j p2] pos) Γ M Q := .mk fun X S σ H at_ Q' hq =>
  PE.to (pe_cmp (pc_notN wE.pe)) (h.run X S σ H at_ _ fun v1 H1 d1 M1 c1 s1 r1 q => by
    show Q' (.bl (!decide (v1 = .non))) H1
    rw [r1.isNon]
    exact hq _ _ _ _ c1 s1 .bl q)
/-- an expression that gives a truth, as a test -/
theorem wt_val (h : WE c e Γ M fun x M1 => ∃ k, x = .bl k ∧ R k M1) (he : ∀ env whole, isTrue e env whole = (do let v ← whole; standAt e.pos; holding [v] (truthy v)) := by intro _ _; rfl) : WT c e Γ M R := .mk fun X S σ H at_ Q' hq =>
  PT.to (pt_val wE.pe (he _)) (h.run X S σ H at_ _ fun v1 H1 d1 M1 c1 s1 r1 ⟨k, e1, q⟩ => by
    subst e1; cases r1
    exact ⟨k, rfl, hq _ _ _ c1 s1 q⟩)
theorem wt_isN {j : Nat} {p2 : Pos} (h : WE c a Γ M fun x M1 => R x.isNon M1) : WT c (.Compare a [.Is] [.Constant .none j p2] pos) Γ M R := .mk fun X S σ H at_ Q' hq =>
  PT.to (pt_cmp (pc_isN wE.pe)) (h.run X S σ H at_ _ fun v1 H1 d1 M1 c1 s1 r1 q => by
    refine ⟨_, rfl, ?_⟩
    rw [r1.isNon]
    exact hq _ _ _ c1 s1 q)
theorem wt_notN {j : Nat} {p2 : Pos} (h : WE c a Γ M fun x M1 => R (!x.isNon) M1) : WT c (.Compare a [.IsNot] [.Constant .none j p2] pos) Γ M R := .mk fun X S σ H at_ Q' hq =>
  PT.to (pt_cmp (pc_notN wE.pe)) (h.run X S σ H at_ _ fun v1 H1 d1 M1 c1 s1 r1 q => by
    refine ⟨_, rfl, ?_⟩
    rw [r1.isNon]
    exact hq _ _ _ c1 s1 q)

/-! ### and, or, not -/
variable {rest : List Expr}
theorem ww_and1 (h : WT c a Γ M R) : WW c (.BoolOp .And [a] pos) Γ M R := .mk fun X S σ H at_ Q' hq => PW.to (pw_and1 wT.pt) (h.run X S σ H at_ _ hq)
theorem ww_or1 (h : WT c a Γ M R) : WW c (.BoolOp .Or [a] pos) Γ M R := .mk fun X S σ H at_ Q' hq => PW.to (pw_or1 wT.pt) (h.run X S σ H at_ _ hq)
/-- the two ways of a test -/
def Br (k : Bool) (A B : Prop) : Prop := (k = true → A) ∧ (k = false → B)
theorem ww_and (h : WT c a Γ M fun k M1 => Br k (WW c (.BoolOp .And (b :: rest) pos) Γ M1 R) (R false M1)) : WW c (.BoolOp .And (a :: b :: rest) pos) Γ M R := .mk fun X S σ H at_ Q' hq =>
  PW.to (pw_and wT.pt wW.pw) (h.run X S σ H at_ _ fun k H1 M1 c1 s1 q => by
    cases k with
    | true => exact (q.1 rfl).run X S σ H1 (at_.step c1 s1) _ fun b' H2 M2 c2 s2 q2 => hq _ _ _ c2 (s1.trans s2) q2
    | false => exact hq _ _ _ c1 s1 (q.2 rfl))
theorem ww_or (h : WT c a Γ M fun k M1 => Br k (R true M1) (WW c (.BoolOp .Or (b :: rest) pos) Γ M1 R)) : WW c (.BoolOp .Or (a :: b :: rest) pos) Γ M R := .mk fun X S σ H at_ Q' hq =>
  PW.to (pw_or wT.pt wW.pw) (h.run X S σ H at_ _ fun k H1 M1 c1 s1 q => by
    cases k with
    | false => exact (q.2 rfl).run X S σ H1 (at_.step c1 s1) _ fun b' H2 M2 c2 s2 q2 => hq _ _ _ c2 (s1.trans s2) q2
    | true => exact hq _ _ _ c1 s1 (q.1 rfl))
theorem wt_ww (h : WW c e Γ M R) : WT c e Γ M R := .mk fun X S σ H at_ Q' hq => PT.to (wW.pw.pt) (h.run X S σ H at_ _ hq)
theorem wt_not (h : WT c a Γ M fun k M1 => R (!k) M1) : WT c (.UnaryOp .Not a pos) Γ M R := .mk fun X S σ H at_ Q' hq =>
  PT.to (pt_not wT.pt) (h.run X S σ H at_ _ fun k H1 M1 c1 s1 q => hq _ _ _ c1 s1 q)
theorem we_not (h : WE c a Γ M fun x M1 => ∃ k, x = .bl k ∧ Q (.bl (!k)) M1) : WE c (.UnaryOp .Not a pos) Γ M Q := .mk fun X S σ H at_ Q' hq =>
  PE.to (pe_not wE.pe) (h.run X S σ H at_ _ fun v1 H1 d1 M1 c1 s1 r1 ⟨k, e1, q⟩ => by
    subst e1; cases r1
    exact ⟨k, rfl, hq _ _ _ _ c1 s1 .bl q⟩)
theorem we_one {op} (h : WE c a Γ M Q) : WE c (.BoolOp op [a] pos) Γ M Q := .mk fun X S σ H at_ Q' hq => PE.to (pe_one wE.pe) (h.run X S σ H at_ _ hq)
theorem we_and (h : WE c a Γ M fun x M1 => ∃ k, x = .bl k ∧ Br k (WE c (.BoolOp .And (b :: rest) pos) Γ M1 Q) (Q (.bl false) M1)) : WE c (.BoolOp .And (a :: b :: rest) pos) Γ M Q := .mk fun X S σ H at_ Q' hq =>
  PE.to (pe_and wE.pe wE.pe) (h.run X S σ H at_ _ fun v1 H1 d1 M1 c1 s1 r1 ⟨k, e1, q⟩ => by
    subst e1; cases r1
    refine ⟨k, rfl, ?_⟩
    cases k with
    | true => exact (q.1 rfl).run X S σ H1 (at_.step c1 s1) _ fun v2 H2 d2 M2 c2 s2 r2 q2 => hq _ _ _ _ c2 (s1.trans s2) r2 q2
    | false => exact hq _ _ _ _ c1 s1 .bl (q.2 rfl))
theorem we_or (h : WE c a Γ M fun x M1 => ∃ k, x = .bl k ∧ Br k (Q (.bl true) M1) (WE c (.BoolOp .Or (b :: rest) pos) Γ M1 Q)) : WE c (.BoolOp .Or (a :: b :: rest) pos) Γ M Q := .mk fun X S σ H at_ Q' hq =>
  PE.to (pe_or wE.pe wE.pe) (h.run X S σ H at_ _ fun v1 H1 d1 M1 c1 s1 r1 ⟨k, e1, q⟩ => by
    subst e1; cases r1
    refine ⟨k, rfl, ?_⟩
    cases k with
    | false => exact (q.2 rfl).run X S σ H1 (at_.step c1 s1) _ fun v2 H2 d2 M2 c2 s2 r2 q2 => hq _ _ _ _ c2 (s1.trans s2) r2 q2
    | true => exact hq _ _ _ _ c1 s1 .bl (q.1 rfl))
theorem we_ifE {t : Expr} (h : WT c t Γ M fun k M1 => Br k (WE c a Γ M1 Q) (WE c b Γ M1 Q)) : WE c (.IfExp t a b pos) Γ M Q := .mk fun X S σ H at_ Q' hq =>
  PE.to (pe_ifExp wT.pt wE.pe wE.pe) (h.run X S σ H at_ _ fun k H1 M1 c1 s1 q => by
    cases k with
    | true => exact (q.1 rfl).run X S σ H1 (at_.step c1 s1) _ fun v2 H2 d2 M2 c2 s2 r2 q2 => hq _ _ _ _ c2 (s1.trans s2) r2 q2
    | false => exact (q.2 rfl).run X S σ H1 (at_.step c1 s1) _ fun v2 H2 d2 M2 c2 s2 r2 q2 => hq _ _ _ _ c2 (s1.trans s2) r2 q2)
theorem br_dec {p : Prop} [Decidable p] {A B : Prop} (h1 : p → A) (h2 : ¬ p → B) : Br (decide p) A B := ⟨fun h => h1 (of_decide_eq_true h), fun h => h2 (of_decide_eq_false h)⟩
theorem br_not {k : Bool} {A B : Prop} (h : Br k B A) : Br (!k) A B := by
  cases k with
  | true => exact ⟨fun z => (by cases z), fun _ => h.1 rfl⟩
  | false => exact ⟨fun _ => h.2 rfl, fun z => (by cases z)⟩
theorem br_t {A B : Prop} (h : A) : Br true A B := ⟨fun _ => h, fun z => (by cases z)⟩
theorem br_f {A B : Prop} (h : B) : Br false A B := ⟨fun z => (by cases z), fun _ => h⟩

/-! ### tuples, lists, arguments -/
theorem wa_nil {R : List D → Cells → Prop} (q : R [] M) : WA c [] Γ M R := .mk fun X S σ H at_ Q' hq => PA.to pa_nil (hq _ _ _ _ at_.core .refl .nil q)
theorem wa_cons {R : List D → Cells → Prop} (h : WE c e Γ M fun x M1 => WA c es Γ M1 fun xs M2 => R (x :: xs) M2) (hs : ∀ env, starEach (e :: es) env = (false, eval e env) :: starEach es env := by intro _; rfl) : WA c (e :: es) Γ M R := .mk fun X S σ H at_ Q' hq =>
  PA.to (pa_cons wE.pe wA.pa (hs _)) (h.run X S σ H at_ _ fun v1 H1 d1 M1 c1 s1 r1 q1 => q1.run X S σ H1 (at_.step c1 s1) _ fun vs H2 ds M2 c2 s2 r2 q2 => hq _ _ _ _ c2 (s1.trans s2) (.cons (r1.to s2.to) r2) q2)
theorem Core.new (cr : Core c.K S M H) {p : Addr} {o : HO} (np : H p = none) : Core c.K S M (upd H p o) := cr.to fun b u e => by
  rw [upd_ne (ne_of_none e np)]
  exact e
theorem same_new {p : Addr} {o : HO} (np : H p = none) : Same H (upd H p o) := fun b u e => by
  rw [upd_ne (ne_of_none e np)]
  exact e
theorem Core.free (cr : Core c.K S M H) {p : Addr} (np : H p = none) : ¬ av S M p := fun z => by
  rcases z with z | z
  · exact cr.known p z np
  · obtain ⟨q, hq, e⟩ := List.mem_map.mp z
    have := (cr.cells q hq).ne
    rw [e] at this
    exact this np
theorem we_tup {k : Nat} (h : WA c es Γ M fun ds M1 => ds.length ≤ sizeLine ∧ Q (.tup ds) M1) : WE c (.Tuple es k pos) Γ M Q := .mk fun X S σ H at_ Q' hq =>
  PE.to (pe_tup wA.pa) (h.run X S σ H at_ _ fun vs H1 ds M1 c1 s1 r1 ⟨hl, q⟩ => ⟨by rw [r1.length]; exact hl, fun p np =>
    hq _ _ _ _ (c1.new np) (s1.trans (Step.same (same_new np))) (.tup (.inl ⟨c1.free np, .inl upd_same⟩) (r1.to (Step.same (same_new np)).to)) q⟩)
/-- a list that stays as it is -/
theorem we_lst (h : WA c es Γ M fun ds M1 => ds.length ≤ sizeLine ∧ Q (.lst ds) M1) : WE c (.List es pos) Γ M Q := .mk fun X S σ H at_ Q' hq =>
  PE.to (pe_lst wA.pa) (h.run X S σ H at_ _ fun vs H1 ds M1 c1 s1 r1 ⟨hl, q⟩ => ⟨by rw [r1.length]; exact hl, fun p np =>
    hq _ _ _ _ (c1.new np) (s1.trans (Step.same (same_new np))) (.lst (.inl ⟨c1.free np, .inl upd_same⟩) (r1.to (Step.same (same_new np)).to)) q⟩)
/-- a new cell -/
theorem Core.cell (cr : Core c.K S M H) {p : Addr} {o : HO} {m : MO} (np : H p = none) (hm : CellOf c.K (av S M) H o m) : Core c.K S ((p, m) :: M) (upd H p o) ∧ Step M ((p, m) :: M) H (upd H p o) := by
  have nd : p ∉ dom M := fun z => cr.free np (.inr z)
  have st : Step M ((p, m) :: M) H (upd H p o) := by
    refine ⟨fun b u _ e => same_new np b u e, (Step.same (M := M) (same_new np)).grow, fun b hb => ?_⟩
    rcases List.mem_cons.mp hb with e | hb
    · subst e; exact .inr np
    · exact .inl hb
  refine ⟨⟨fun b z => st.grow b (cr.known b z), List.nodup_cons.mpr ⟨nd, cr.nod⟩, fun a ha z => ?_, fun q hq => ?_⟩, st⟩
  · rcases List.mem_cons.mp ha with e | ha
    · subst e; exact cr.free np (.inl z)
    · exact cr.dis a ha z
  · rcases List.mem_cons.mp hq with e | hq
    · subst e
      exact ⟨o, upd_same, hm.to st.to⟩
    · exact CellAt.to st.to (fun u e => same_new np _ u e) (cr.cells q hq)
theorem dom_set {M : Cells} {i : Nat} {a : Addr} {m m' : MO} (h : M[i]? = some (a, m)) : dom (M.set i (a, m')) = dom M := by
  unfold dom
  rw [List.map_set]
  have : (M.map (·.1))[i]? = some a := by rw [List.getElem?_map, h]; rfl
  obtain ⟨hi, e⟩ := List.getElem?_eq_some_iff.mp this
  show (M.map (·.1)).set i a = _
  rw [← e, List.set_getElem_self]
/-- a cell is changed -/
theorem Core.put (cr : Core c.K S M H) {i : Nat} {a : Addr} {m m' : MO} {o : HO} (h : M[i]? = some (a, m)) (hm : CellOf c.K (av S M) H o m') :
    Core c.K S (M.set i (a, m')) (upd H a o) ∧ Step M (M.set i (a, m')) H (upd H a o) := by
  have ed := dom_set (m' := m') h
  have hmem : (a, m) ∈ M := List.mem_of_getElem? h
  have ha : a ∈ dom M := List.mem_map.mpr ⟨_, hmem, rfl⟩
  have st : Step M (M.set i (a, m')) H (upd H a o) := by
    refine ⟨fun b u n e => ?_, fun b n => ?_, fun b hb => .inl (by rw [ed] at hb; exact hb)⟩
    · rw [upd_ne (fun z => n (by rw [z]; exact ha))]
      exact e
    · by_cases z : b = a
      · subst z; rw [upd_same]; exact fun q => by cases q
      · rw [upd_ne z]; exact n
  refine ⟨⟨fun b z => st.grow b (cr.known b z), by rw [ed]; exact cr.nod, by rw [ed]; exact cr.dis, fun q hq => ?_⟩, st⟩
  obtain ⟨j, hj⟩ := List.getElem?_of_mem hq
  by_cases e : i = j
  · subst e
    have hi : i < M.length := (List.getElem?_eq_some_iff.mp h).1
    rw [List.getElem?_set_self hi] at hj
    have := Option.some.inj hj
    subst this
    exact ⟨o, upd_same, hm.to st.to⟩
  · rw [List.getElem?_set_ne e] at hj
    have hq' : q ∈ M := List.mem_of_getElem? hj
    refine CellAt.to st.to (fun u eu => ?_) (cr.cells q hq')
    rw [upd_ne (fun z => ?_)]
    · exact eu
    · -- two places with one address
      have e1 : (dom M)[i]? = some a := by unfold dom; rw [List.getElem?_map, h]; rfl
      have e2 : (dom M)[j]? = some a := by unfold dom; rw [List.getElem?_map, hj]; show some q.1 = some a; rw [z]
      have nd := cr.nod
      obtain ⟨h1, g1⟩ := List.getElem?_eq_some_iff.mp e1
      obtain ⟨h2, g2⟩ := List.getElem?_eq_some_iff.mp e2
      exact e ((List.getElem_inj nd).mp (g1.trans g2.symm))
theorem Core.at_ (cr : Core c.K S M H) {i : Nat} {a : Addr} {m : MO} (h : M[i]? = some (a, m)) : ∃ o, H a = some o ∧ CellOf c.K (av S M) H o m := cr.cells _ (List.mem_of_getElem? h)
end
end PL
namespace PL
open PySem PySem.Spec PyProof.Rows L2

/-! ### data compared -/
mutual
def D.py : D → PyData
  | .non => .none
  | .bl b => .bool b
  | .int i => .int i
  | .str x => .str x
  | .tup xs => .tuple (D.pys xs)
  | .lst xs => .list (D.pys xs)
  | .ptr _ => .none
  | .obj _ _ => .none
def D.pys : List D → List PyData
  | [] => []
  | x :: xs => D.py x :: D.pys xs
end
mutual
/-- plain data, no deeper than n -/
def D.okd (n : Nat) : D → Bool
  | .non => true
  | .bl _ => true
  | .int _ => true
  | .str _ => true
  | .tup xs => match n with
    | 0 => false
    | n + 1 => D.okds n xs
  | .lst xs => match n with
    | 0 => false
    | n + 1 => D.okds n xs
  | .ptr _ => false
  | .obj _ _ => false
def D.okds (n : Nat) : List D → Bool
  | [] => true
  | x :: xs => D.okd n x && D.okds n xs
end
def D.eqv (x y : D) : Bool := PyData.eqv x.py y.py
section
variable {K : PySem.W.Frag} {A : AS} {H : Hp}
mutual
theorem Rep.dp : ∀ (n : Nat) (d : D) {v : V}, Rep K A H v d → d.okd n = true → Dp K H v d.py
  | _, .non, _, r, _ => by cases r; exact .non
  | _, .bl b, _, r, _ => by cases r; exact .bl _
  | _, .int b, _, r, _ => by cases r; exact .int _
  | _, .str b, _, r, _ => by cases r; exact .str _
  | 0, .tup xs, _, r, h => by simp [D.okd] at h
  | n + 1, .tup xs, _, r, h => by
    cases r with
    | tup h1 h2 => exact .tup h1.sq (Reps.dp n xs h2 (by simpa [D.okd] using h))
  | 0, .lst xs, _, r, h => by simp [D.okd] at h
  | n + 1, .lst xs, _, r, h => by
    cases r with
    | lst h1 h2 => exact .lst h1.sq (Reps.dp n xs h2 (by simpa [D.okd] using h))
  | _, .ptr a, _, _, h => by simp [D.okd] at h
  | _, .obj a fs, _, _, h => by simp [D.okd] at h
theorem Reps.dp : ∀ (n : Nat) (ds : List D) {vs : List V}, Reps K A H vs ds → D.okds n ds = true → DpAll K H vs (D.pys ds)
  | _, [], _, r, _ => by cases r; exact .nil
  | n, d :: ds, _, r, h => by
    cases r with
    | cons h1 h2 =>
      have h' : d.okd n = true ∧ D.okds n ds = true := by simpa [D.okds] using h
      exact .cons (Rep.dp n d h1 h'.1) (Reps.dp n ds h2 h'.2)
end
end
mutual
theorem D.plain_ok : ∀ (n : Nat) (d : D), d.okd n = true → d.py.plain = true ∧ d.py.depth ≤ n
  | _, .non, _ => ⟨rfl, Nat.zero_le _⟩
  | _, .bl b, _ => ⟨rfl, Nat.zero_le _⟩
  | _, .int b, _ => ⟨rfl, Nat.zero_le _⟩
  | _, .str b, _ => ⟨rfl, Nat.zero_le _⟩
  | 0, .tup xs, h => by simp [D.okd] at h
  | n + 1, .tup xs, h => by
    have q := D.plain_oks n xs (by simpa [D.okd] using h)
    exact ⟨by simpa [D.py, PyData.plain] using q.1, by simp only [D.py, PyData.depth]; omega⟩
  | 0, .lst xs, h => by simp [D.okd] at h
  | n + 1, .lst xs, h => by
    have q := D.plain_oks n xs (by simpa [D.okd] using h)
    exact ⟨by simpa [D.py, PyData.plain] using q.1, by simp only [D.py, PyData.depth]; omega⟩
  | _, .ptr a, h => by simp [D.okd] at h
  | _, .obj a fs, h => by simp [D.okd] at h
theorem D.plain_oks : ∀ (n : Nat) (ds : List D), D.okds n ds = true → PyData.plainAll (D.pys ds) = true ∧ PyData.depthAll (D.pys ds) ≤ n
  | _, [], _ => ⟨rfl, Nat.zero_le _⟩
  | n, d :: ds, h => by
    have h' : d.okd n = true ∧ D.okds n ds = true := by simpa [D.okds] using h
    have q1 := D.plain_ok n d h'.1
    have q2 := D.plain_oks n ds h'.2
    exact ⟨by simp [D.pys, PyData.plainAll, q1.1, q2.1], by simp only [D.pys, PyData.depthAll]; omega⟩
end
theorem D.pys_map (ds : List D) : D.pys ds = ds.map D.py := by
  induction ds with
  | nil => rfl
  | cons d ds ih => simp [D.pys, ih]
section
variable {X : Cx}
def rEqP (K : PySem.W.Frag) (neg : Bool) : R2 := fun x y H Q => ∃ d e, Dp K H x d ∧ Dp K H y e ∧ d.plain = true ∧ e.plain = true ∧ d.depth ≤ 60 ∧ Q (.bl (if neg then !PyData.eqv d e else PyData.eqv d e)) H
theorem op_eqP (hu : X.A.units + 64 < cLine) : OpR X (compareOp .Eq) (rEqP X.K false) := by
  intro pins s σ H x y v u Q I rx ry h
  obtain ⟨d, e, hd, he, sd, se, hdep, q⟩ := h
  obtain ⟨as, r1⟩ := Dp.reads I d x v hd rx
  obtain ⟨bs, r2⟩ := Dp.reads I e y u he ry
  exact PySem.SeqAt.eq_plain r1 r2 sd se (by omega) ⟨.bl _, H, I, rfl, q⟩
theorem op_neP (hu : X.A.units + 64 < cLine) : OpR X (compareOp .NotEq) (rEqP X.K true) := by
  intro pins s σ H x y v u Q I rx ry h
  obtain ⟨d, e, hd, he, sd, se, hdep, q⟩ := h
  obtain ⟨as, r1⟩ := Dp.reads I d x v hd rx
  obtain ⟨bs, r2⟩ := Dp.reads I e y u he ry
  exact PySem.SeqAt.ne_plain r1 r2 sd se (by omega) ⟨.bl _, H, I, rfl, q⟩
def rInP (K : PySem.W.Frag) (neg : Bool) : R2 := fun x y H Q => ∃ d es, Dp K H x d ∧ (Dp K H y (.list es) ∨ Dp K H y (.tuple es)) ∧ d.plain = true ∧ PyData.plainAll es = true ∧ d.depth ≤ 60 ∧ Q (.bl (if neg then !es.any (fun z => PyData.eqv z d) else es.any (fun z => PyData.eqv z d))) H
theorem op_inP (hu : X.A.units + 64 < cLine) : OpR X (compareOp .In) (rInP X.K false) := by
  intro pins s σ H x y v u Q I rx ry h
  obtain ⟨d, e, hd, he, sd, se, hdep, q⟩ := h
  obtain ⟨as, r1⟩ := Dp.reads I d x v hd rx
  rcases he with he | he
  · obtain ⟨bs, r2⟩ := Dp.reads I _ y u he ry
    exact PySem.SeqAt.in_list_data r2 r1 se sd (by omega) ⟨.bl _, H, I, rfl, q⟩
  · obtain ⟨bs, r2⟩ := Dp.reads I _ y u he ry
    exact PySem.SeqAt.in_tuple_data r2 r1 se sd (by omega) ⟨.bl _, H, I, rfl, q⟩
theorem op_ninP (hu : X.A.units + 64 < cLine) : OpR X (compareOp .NotIn) (rInP X.K true) := by
  intro pins s σ H x y v u Q I rx ry h
  obtain ⟨d, e, hd, he, sd, se, hdep, q⟩ := h
  obtain ⟨as, r1⟩ := Dp.reads I d x v hd rx
  rcases he with he | he
  · obtain ⟨bs, r2⟩ := Dp.reads I _ y u he ry
    exact PySem.SeqAt.notIn_list_data r2 r1 se sd (by omega) ⟨.bl _, H, I, rfl, q⟩
  · obtain ⟨bs, r2⟩ := Dp.reads I _ y u he ry
    exact PySem.SeqAt.notIn_tuple_data r2 r1 se sd (by omega) ⟨.bl _, H, I, rfl, q⟩
end
section
variable {c : Ctx} {X : Cx} {S : AS} {Γ Γ' : Gam} {M M' : Cells} {σ σ' : L2.St} {H H' : Hp} {a b e : Expr} {es : List Expr} {pos pos' : Pos} {Q : D → Cells → Prop} {R : Bool → Cells → Prop} {x : Str}
/-- what stands behind a pointer to a list cell may be read -/
inductive View (M : Cells) : D → D → Prop
  | self {d} : View M d d
  | cell {i : Nat} {a : Addr} {ds : List D} : M[i]? = some (a, MO.lst ds) → View M (.ptr a) (.lst ds)
theorem View.rep {d d' : D} (w : View M d d') (cr : Core c.K S M H) {v : V} (r : Rep c.K (av S M) H v d) : Rep c.K S H v d' := by
  have t : To (av S M) S H H := ⟨fun _ _ _ h => h, fun b h => .inl (.inl h)⟩
  cases w with
  | self => exact r.to t
  | cell h =>
    cases r
    obtain ⟨o, ho, vs, e, rs⟩ := cr.at_ h
    subst e
    exact .lst (.inl ⟨cr.dis _ (List.mem_map.mpr ⟨_, List.mem_of_getElem? h, rfl⟩), .inl ho⟩) (rs.to t)
theorem we_cmpD {op : CmpOp} {neg : Bool} (ho : ∀ X : Cx, X.A.units + 64 < cLine → OpR X (compareOp op) (rEqP X.K neg)) (hm : behindInMarks op b = false)
    (h : WE c a Γ M fun x M1 => WE c b Γ M1 fun y M2 => ∃ x' y', View M2 x x' ∧ View M2 y y' ∧ x'.okd 60 = true ∧ y'.okd 60 = true ∧ Q (.bl (if neg then !x'.eqv y' else x'.eqv y')) M2) : WE c (.Compare a [op] [b] pos) Γ M Q := .mk fun X S σ H at_ Q' hq =>
  PE.to (pe_cmpR (ho X at_.is.hu) wE.pe wE.pe hm) (two h at_ fun v1 v2 H2 d1 d2 M2 c2 s2 r1 r2 ⟨x', y', w1, w2, o1, o2, q⟩ => by
    have p1 := D.plain_ok _ _ o1
    have p2 := D.plain_ok _ _ o2
    rw [at_.is.K]
    exact ⟨x'.py, y'.py, (w1.rep c2 r1).dp 60 _ o1, (w2.rep c2 r2).dp 60 _ o2, p1.1, p2.1, p1.2, hq _ _ _ _ c2 s2 .bl q⟩)
theorem wt_cmpD {op : CmpOp} {neg : Bool} (ho : ∀ X : Cx, X.A.units + 64 < cLine → OpR X (compareOp op) (rEqP X.K neg)) (hm : behindInMarks op b = false)
    (h : WE c a Γ M fun x M1 => WE c b Γ M1 fun y M2 => ∃ x' y', View M2 x x' ∧ View M2 y y' ∧ x'.okd 60 = true ∧ y'.okd 60 = true ∧ R (if neg then !x'.eqv y' else x'.eqv y') M2) : WT c (.Compare a [op] [b] pos) Γ M R := .mk fun X S σ H at_ Q' hq =>
  PT.to (pt_cmpR (ho X at_.is.hu) wE.pe wE.pe hm) (two h at_ fun v1 v2 H2 d1 d2 M2 c2 s2 r1 r2 ⟨x', y', w1, w2, o1, o2, q⟩ => by
    have p1 := D.plain_ok _ _ o1
    have p2 := D.plain_ok _ _ o2
    rw [at_.is.K]
    exact ⟨x'.py, y'.py, (w1.rep c2 r1).dp 60 _ o1, (w2.rep c2 r2).dp 60 _ o2, p1.1, p2.1, p1.2, _, rfl, hq _ _ _ c2 s2 q⟩)
theorem we_eq (h : WE c a Γ M fun x M1 => WE c b Γ M1 fun y M2 => ∃ x' y', View M2 x x' ∧ View M2 y y' ∧ x'.okd 60 = true ∧ y'.okd 60 = true ∧ Q (.bl (x'.eqv y')) M2) : WE c (.Compare a [.Eq] [b] pos) Γ M Q := we_cmpD (neg := false) (fun X => op_eqP) (nomark _) h
theorem we_ne (h : WE c a Γ M fun x M1 => WE c b Γ M1 fun y M2 => ∃ x' y', View M2 x x' ∧ View M2 y y' ∧ x'.okd 60 = true ∧ y'.okd 60 = true ∧ Q (.bl (!x'.eqv y')) M2) : WE c (.Compare a [.NotEq] [b] pos) Γ M Q := we_cmpD (neg := true) (fun X => op_neP) (nomark _) h
theorem wt_eq (h : WE c a Γ M fun x M1 => WE c b Γ M1 fun y M2 => ∃ x' y', View M2 x x' ∧ View M2 y y' ∧ x'.okd 60 = true ∧ y'.okd 60 = true ∧ R (x'.eqv y') M2) : WT c (.Compare a [.Eq] [b] pos) Γ M R := wt_cmpD (neg := false) (fun X => op_eqP) (nomark _) h
theorem wt_ne (h : WE c a Γ M fun x M1 => WE c b Γ M1 fun y M2 => ∃ x' y', View M2 x x' ∧ View M2 y y' ∧ x'.okd 60 = true ∧ y'.okd 60 = true ∧ R (!x'.eqv y') M2) : WT c (.Compare a [.NotEq] [b] pos) Γ M R := wt_cmpD (neg := true) (fun X => op_neP) (nomark _) h
/-- two ints, the common case -/
theorem wt_eqI (h : WE c a Γ M fun x M1 => WE c b Γ M1 fun y M2 => ∃ i j, x = .int i ∧ y = .int j ∧ R (decide (i = j)) M2) : WT c (.Compare a [.Eq] [b] pos) Γ M R := .mk fun X S σ H at_ Q' hq =>
  PT.to (pt_cmpR op_eq wE.pe wE.pe (nomark _)) (two h at_ fun v1 v2 H2 d1 d2 M2 c2 s2 r1 r2 ⟨i, j, e1, e2, q⟩ => by
    subst e1 e2; cases r1; cases r2
    refine ⟨rfl, _, rfl, hq _ _ _ c2 s2 ?_⟩
    rw [show decide (V.int i = V.int j) = decide (i = j) from decide_eq_decide.mpr ⟨fun z => V.int.inj z, fun z => by rw [z]⟩]
    exact q)
theorem wt_neI (h : WE c a Γ M fun x M1 => WE c b Γ M1 fun y M2 => ∃ i j, x = .int i ∧ y = .int j ∧ R (!decide (i = j)) M2) : WT c (.Compare a [.NotEq] [b] pos) Γ M R := .mk fun X S σ H at_ Q' hq =>
  PT.to (pt_cmpR op_ne wE.pe wE.pe (nomark _)) (two h at_ fun v1 v2 H2 d1 d2 M2 c2 s2 r1 r2 ⟨i, j, e1, e2, q⟩ => by
    subst e1 e2; cases r1; cases r2
    refine ⟨rfl, _, rfl, hq _ _ _ c2 s2 ?_⟩
    rw [show decide (V.int i = V.int j) = decide (i = j) from decide_eq_decide.mpr ⟨fun z => V.int.inj z, fun z => by rw [z]⟩]
    exact q)
theorem we_in (h : WE c a Γ M fun x M1 => WE c b Γ M1 fun y M2 => ∃ x' ys, View M2 x x' ∧ (View M2 y (.lst ys) ∨ View M2 y (.tup ys)) ∧ x'.okd 60 = true ∧ D.okds 60 ys = true ∧ Q (.bl (ys.any fun z => z.eqv x')) M2)
    (hm : behindInMarks .In b = false := by rfl) : WE c (.Compare a [.In] [b] pos) Γ M Q := .mk fun X S σ H at_ Q' hq =>
  PE.to (pe_cmpR (op_inP at_.is.hu) wE.pe wE.pe hm) (two h at_ fun v1 v2 H2 d1 d2 M2 c2 s2 r1 r2 ⟨x', ys, w1, w2, o1, o2, q⟩ => by
    have p1 := D.plain_ok _ _ o1
    have p2 := D.plain_oks _ _ o2
    rw [at_.is.K]
    refine ⟨x'.py, D.pys ys, (w1.rep c2 r1).dp 60 _ o1, ?_, p1.1, p2.1, p1.2, hq _ _ _ _ c2 s2 .bl ?_⟩
    · rcases w2 with w2 | w2
      · exact .inl ((w2.rep c2 r2).dp 61 (.lst ys) (by simpa [D.okd] using o2))
      · exact .inr ((w2.rep c2 r2).dp 61 (.tup ys) (by simpa [D.okd] using o2))
    · rw [D.pys_map, List.any_map]
      exact q)
theorem we_nin (h : WE c a Γ M fun x M1 => WE c b Γ M1 fun y M2 => ∃ x' ys, View M2 x x' ∧ (View M2 y (.lst ys) ∨ View M2 y (.tup ys)) ∧ x'.okd 60 = true ∧ D.okds 60 ys = true ∧ Q (.bl (!ys.any fun z => z.eqv x')) M2)
    (hm : behindInMarks .NotIn b = false := by rfl) : WE c (.Compare a [.NotIn] [b] pos) Γ M Q := .mk fun X S σ H at_ Q' hq =>
  PE.to (pe_cmpR (op_ninP at_.is.hu) wE.pe wE.pe hm) (two h at_ fun v1 v2 H2 d1 d2 M2 c2 s2 r1 r2 ⟨x', ys, w1, w2, o1, o2, q⟩ => by
    have p1 := D.plain_ok _ _ o1
    have p2 := D.plain_oks _ _ o2
    rw [at_.is.K]
    refine ⟨x'.py, D.pys ys, (w1.rep c2 r1).dp 60 _ o1, ?_, p1.1, p2.1, p1.2, hq _ _ _ _ c2 s2 .bl ?_⟩
    · rcases w2 with w2 | w2
      · exact .inl ((w2.rep c2 r2).dp 61 (.lst ys) (by simpa [D.okd] using o2))
      · exact .inr ((w2.rep c2 r2).dp 61 (.tup ys) (by simpa [D.okd] using o2))
    · rw [D.pys_map, List.any_map]
      exact q)

/-! ### subscripts -/
theorem Reps.atI {K A H} {vs : List V} {ds : List D} {i : Int} {d : D} (r : Reps K A H vs ds) (h : atI ds i = some d) : ∃ v, L2.atI vs i = some v ∧ Rep K A H v d := by
  unfold L2.atI at h ⊢
  rw [r.length]
  cases e : ixN ds.length i with
  | none => rw [e] at h; cases h
  | some j =>
    rw [e] at h
    exact r.get h
theorem we_ix (h : WE c a Γ M fun x M1 => WE c b Γ M1 fun y M2 => ∃ ds i d, (x = .tup ds ∨ x = .lst ds ∨ ∃ (j : Nat) (p : Addr), x = .ptr p ∧ M2[j]? = some (p, .lst ds)) ∧ y = .int i ∧ atI ds i = some d ∧ Q d M2)
    (hs : PlainIx b := by exact fun _ _ => rfl) : WE c (.Subscript a b pos) Γ M Q := .mk fun X S σ H at_ Q' hq =>
  PE.to (pe_ix ix_seq wE.pe wE.pe hs) (two h at_ fun v1 v2 H2 d1 d2 M2 c2 s2 r1 r2 ⟨ds, i, d, e1, e2, hd, q⟩ => by
    subst e2; cases r2
    rw [at_.is.K]
    rcases e1 with e1 | e1 | ⟨j, p, e1, hj⟩
    · subst e1
      cases r1 with
      | tup h1 h2 =>
        obtain ⟨v, hv, r⟩ := h2.atI hd
        exact .inr (.inl ⟨_, _, _, v, rfl, rfl, h1.sq, hv, hq _ _ _ _ c2 s2 r q⟩)
    · subst e1
      cases r1 with
      | lst h1 h2 =>
        obtain ⟨v, hv, r⟩ := h2.atI hd
        exact .inl ⟨_, _, _, v, rfl, rfl, h1.sq, hv, hq _ _ _ _ c2 s2 r q⟩
    · subst e1
      cases r1
      obtain ⟨o, ho, vs, e, rs⟩ := c2.at_ hj
      subst e
      obtain ⟨v, hv, r⟩ := rs.atI hd
      exact .inl ⟨_, _, _, v, rfl, rfl, .of ho, hv, hq _ _ _ _ c2 s2 r q⟩)

/-! ### list cells -/
/-- a list that will change -/
theorem we_lstC (h : WA c es Γ M fun ds M1 => ds.length ≤ sizeLine ∧ ∀ p, Q (.ptr p) ((p, .lst ds) :: M1)) : WE c (.List es pos) Γ M Q := .mk fun X S σ H at_ Q' hq =>
  PE.to (pe_lst wA.pa) (h.run X S σ H at_ _ fun vs H1 ds M1 c1 s1 r1 ⟨hl, q⟩ => ⟨by rw [r1.length]; exact hl, fun p np => by
    have k := c1.cell (o := .lst vs) (m := .lst ds) np ⟨vs, rfl, r1⟩
    exact hq _ _ _ _ k.1 (s1.trans k.2) .ptr (q p)⟩)
theorem tyV_list {K : PySem.W.Frag} {p : Addr} {xs : List V} (h : H p = some (.lst xs)) : tyV K "list" (.ref p) H := .inl ⟨rfl, _, SqL.of h⟩
/-- a list cell's method with arguments -/
theorem we_listM {name : Str} {id : String} {r : V → List V → Hp → VK → Prop} {f : List D → List D → D → List D → Prop} {apos : Pos}
    (slot : Slot "list" name id) (hty : typeOf (.builtin id) = pure (.type "method_descriptor")) (hm : ∀ X : Cx, MtR X id r)
    (hr : ∀ {c : Ctx} {S : AS} {M : Cells} {H : Hp} {p : Addr} {vs : List V} {ds : List D} {ws : List V} {es : List D} {z : D} {ds' : List D} {Q' : VK}, H p = some (.lst vs) → Reps c.K (av S M) H vs ds → Reps c.K (av S M) H ws es → f ds es z ds' →
      (∀ zv vs', Rep c.K (av S M) H zv z → Reps c.K (av S M) H vs' ds' → Q' zv (upd H p (.lst vs'))) → r (.ref p) ws H Q')
    (h : WE c a Γ M fun x M1 => ∃ (p : Addr) (i : Nat) (ds : List D), x = .ptr p ∧ M1[i]? = some (p, .lst ds) ∧ WA c (e :: es) Γ M1 fun xs M2 => ∃ (j : Nat) (ds2 : List D) (z : D) (ds' : List D), M2[j]? = some (p, .lst ds2) ∧ f ds2 xs z ds' ∧ Q z (M2.set j (p, .lst ds')))
    (hbase : ∀ env, attributeBase a name env (eval a env) = eval a env := by intro _; rfl)
    (hfew : ∀ env, ((backTo pos (starEach (e :: es) env)).all (fun x => !x.1) && (backToKw pos (keywordEach [] env)).all (fun x => x.1.isSome)
      && decide ((e :: es).length + ([] : List Keyword).length + (if ([] : List Keyword).isEmpty then 0 else 1) < 30)) = true := by intro _; rfl)
    (hline : (apos.endLine == pos.line) = true := by rfl) (hst : ∀ env, starEach (e :: es) env = (false, eval e env) :: starEach es env := by intro _; rfl) (hplain : ∀ env, (backTo pos (starEach es env)).any (·.1) = false := by intro _; rfl) :
    WE c (.Call (.Attribute a name apos) (e :: es) [] pos) Γ M Q := .mk fun X S σ H at_ Q' hq =>
  PE.to (pe_bm PySem.F.plainAttrs_list slot hty (hm X) wE.pe wA.pa (hbase _) (hfew _) hline (hst _) (hplain _)) (h.run X S σ H at_ _ fun v1 H1 d1 M1 c1 s1 r1 ⟨p, i, ds, e1, hi, q1⟩ => by
    subst e1; cases r1
    obtain ⟨o, ho, vs, e, rs⟩ := c1.at_ hi
    subst e
    refine ⟨tyV_list ho, q1.run X S σ H1 (at_.step c1 s1) _ fun ws H2 xs M2 c2 s2 r2 ⟨j, ds2, z, ds', hj, hf, q2⟩ => ?_⟩
    obtain ⟨o2, ho2, vs2, e2, rs2⟩ := c2.at_ hj
    subst e2
    refine hr ho2 rs2 r2 hf fun zv vs' rz rv => ?_
    have k := c2.put (m' := .lst ds') (o := .lst vs') hj ⟨vs', rfl, rv⟩
    exact hq _ _ _ _ k.1 ((s1.trans s2).trans k.2) (rz.to k.2.to) q2)
theorem we_listM0 {name : Str} {id : String} {r : V → List V → Hp → VK → Prop} {f : List D → D → List D → Prop} {apos : Pos}
    (slot : Slot "list" name id) (hty : typeOf (.builtin id) = pure (.type "method_descriptor")) (hm : ∀ X : Cx, MtR X id r)
    (hr : ∀ {c : Ctx} {S : AS} {M : Cells} {H : Hp} {p : Addr} {vs : List V} {ds : List D} {z : D} {ds' : List D} {Q' : VK}, H p = some (.lst vs) → Reps c.K (av S M) H vs ds → f ds z ds' →
      (∀ zv vs', Rep c.K (av S M) H zv z → Reps c.K (av S M) H vs' ds' → Q' zv (upd H p (.lst vs'))) → r (.ref p) [] H Q')
    (h : WE c a Γ M fun x M1 => ∃ (p : Addr) (i : Nat) (ds : List D) (z : D) (ds' : List D), x = .ptr p ∧ M1[i]? = some (p, .lst ds) ∧ f ds z ds' ∧ Q z (M1.set i (p, .lst ds')))
    (hbase : ∀ env, attributeBase a name env (eval a env) = eval a env := by intro _; rfl) (hline : (apos.endLine == pos.line) = true := by rfl) :
    WE c (.Call (.Attribute a name apos) [] [] pos) Γ M Q := .mk fun X S σ H at_ Q' hq =>
  PE.to (pe_bm0 PySem.F.plainAttrs_list slot hty (hm X) wE.pe (hbase _) hline) (h.run X S σ H at_ _ fun v1 H1 d1 M1 c1 s1 r1 ⟨p, i, ds, z, ds', e1, hi, hf, q1⟩ => by
    subst e1; cases r1
    obtain ⟨o, ho, vs, e, rs⟩ := c1.at_ hi
    subst e
    refine ⟨tyV_list ho, hr ho rs hf fun zv vs' rz rv => ?_⟩
    have k := c1.put (m' := .lst ds') (o := .lst vs') hi ⟨vs', rfl, rv⟩
    exact hq _ _ _ _ k.1 (s1.trans k.2) (rz.to k.2.to) q1)
theorem we_append {apos : Pos} (h : WE c a Γ M fun x M1 => ∃ (p : Addr) (i : Nat) (ds : List D), x = .ptr p ∧ M1[i]? = some (p, .lst ds) ∧ WE c e Γ M1 fun y M2 => ∃ (j : Nat) (ds2 : List D), M2[j]? = some (p, .lst ds2) ∧ ds2.length < sizeLine ∧ Q .non (M2.set j (p, .lst (ds2 ++ [y]))))
    (hbase : ∀ env, attributeBase a "append" env (eval a env) = eval a env := by intro _; rfl)
    (hfew : ∀ env, ((backTo pos (starEach [e] env)).all (fun x => !x.1) && (backToKw pos (keywordEach [] env)).all (fun x => x.1.isSome)
      && decide ([e].length + ([] : List Keyword).length + (if ([] : List Keyword).isEmpty then 0 else 1) < 30)) = true := by intro _; rfl)
    (hline : (apos.endLine == pos.line) = true := by rfl) (hst : ∀ env, starEach [e] env = (false, eval e env) :: starEach [] env := by intro _; rfl) :
    WE c (.Call (.Attribute a "append" apos) [e] [] pos) Γ M Q :=
  we_listM (f := fun ds es z ds' => ∃ y, es = [y] ∧ ds.length < sizeLine ∧ z = .non ∧ ds' = ds ++ [y]) PySem.F.slot_list_append PySem.F.type_list_append (fun X => mt_append)
    (fun {c S M H p vs ds ws es z ds' Q'} hp rs re hf q => by
      obtain ⟨y, e1, hl, e2, e3⟩ := hf
      subst e1 e2 e3
      cases re with
      | cons r1 r2 =>
        cases r2
        exact ⟨p, vs, _, rfl, rfl, hp, by rw [rs.length]; exact hl, q _ _ .non (rs.append (.cons r1 .nil))⟩)
    (.mk fun X S σ H at_ Q' hq => h.run X S σ H at_ Q' fun v H' d M' c1 s1 r1 ⟨p, i, ds, e1, hi, q⟩ => hq v H' d M' c1 s1 r1 ⟨p, i, ds, e1, hi, wa_cons (.mk fun X S σ H at_ Q' hq => q.run X S σ H at_ Q' fun v H' d M' c1 s1 r1 ⟨j, ds2, hj, hl, q⟩ => hq v H' d M' c1 s1 r1 (wa_nil ⟨j, ds2, .non, _, hj, ⟨d, rfl, hl, rfl, rfl⟩, q⟩)) hst⟩)
    hbase hfew hline hst (fun _ => rfl)
theorem we_pop {apos : Pos} (h : WE c a Γ M fun x M1 => ∃ (p : Addr) (i : Nat) (ds : List D) (y : D), x = .ptr p ∧ M1[i]? = some (p, .lst ds) ∧ ds[ds.length - 1]? = some y ∧ Q y (M1.set i (p, .lst ds.dropLast)))
    (hbase : ∀ env, attributeBase a "pop" env (eval a env) = eval a env := by intro _; rfl) (hline : (apos.endLine == pos.line) = true := by rfl) : WE c (.Call (.Attribute a "pop" apos) [] [] pos) Γ M Q :=
  we_listM0 (f := fun ds z ds' => ds[ds.length - 1]? = some z ∧ ds' = ds.dropLast) PySem.F.slot_list_pop PySem.F.type_list_pop (fun X => mt_pop)
    (fun {c S M H p vs ds z ds' Q'} hp rs hf q => by
      obtain ⟨e1, e2⟩ := hf
      subst e2
      obtain ⟨v, hv, r⟩ := rs.get e1
      refine ⟨p, vs, v, rfl, rfl, hp, by rw [rs.length]; exact hv, q _ _ r ?_⟩
      rw [List.dropLast_eq_take, List.dropLast_eq_take, rs.length]
      exact rs.take _)
    (.mk fun X S σ H at_ Q' hq => h.run X S σ H at_ Q' fun v H' d M' c1 s1 r1 ⟨p, i, ds, y, e1, hi, hy, q⟩ => hq v H' d M' c1 s1 r1 ⟨p, i, ds, y, _, e1, hi, ⟨hy, rfl⟩, q⟩) hbase hline
theorem we_popAt {apos : Pos} (h : WE c a Γ M fun x M1 => ∃ (p : Addr) (i : Nat) (ds : List D), x = .ptr p ∧ M1[i]? = some (p, .lst ds) ∧ WE c e Γ M1 fun y M2 => ∃ (j : Nat) (ds2 : List D) (k : Int) (n : Nat) (z : D), y = .int k ∧ M2[j]? = some (p, .lst ds2) ∧ -(2 ^ 63) ≤ k ∧ k < 2 ^ 63 ∧ seqIndex? k ds2.length = some n ∧ ds2[n]? = some z ∧ Q z (M2.set j (p, .lst (ds2.eraseIdx n))))
    (hbase : ∀ env, attributeBase a "pop" env (eval a env) = eval a env := by intro _; rfl)
    (hfew : ∀ env, ((backTo pos (starEach [e] env)).all (fun x => !x.1) && (backToKw pos (keywordEach [] env)).all (fun x => x.1.isSome)
      && decide ([e].length + ([] : List Keyword).length + (if ([] : List Keyword).isEmpty then 0 else 1) < 30)) = true := by intro _; rfl)
    (hline : (apos.endLine == pos.line) = true := by rfl) (hst : ∀ env, starEach [e] env = (false, eval e env) :: starEach [] env := by intro _; rfl) :
    WE c (.Call (.Attribute a "pop" apos) [e] [] pos) Γ M Q :=
  we_listM (f := fun ds es z ds' => ∃ k n, es = [.int k] ∧ -(2 ^ 63) ≤ k ∧ k < 2 ^ 63 ∧ seqIndex? k ds.length = some n ∧ ds[n]? = some z ∧ ds' = ds.eraseIdx n) PySem.F.slot_list_pop PySem.F.type_list_pop (fun X => mt_popAt)
    (fun {c S M H p vs ds ws es z ds' Q'} hp rs re hf q => by
      obtain ⟨k, n, e1, h1, h2, h3, h4, e3⟩ := hf
      subst e1 e3
      cases re with
      | cons r1 r2 =>
        cases r2
        cases r1
        obtain ⟨v, hv, r⟩ := rs.get h4
        exact ⟨p, vs, k, n, v, rfl, rfl, hp, h1, h2, by rw [rs.length]; exact h3, hv, q _ _ r (rs.eraseIdx n)⟩)
    (.mk fun X S σ H at_ Q' hq => h.run X S σ H at_ Q' fun v H' d M' c1 s1 r1 ⟨p, i, ds, e1, hi, q⟩ => hq v H' d M' c1 s1 r1 ⟨p, i, ds, e1, hi, wa_cons (.mk fun X S σ H at_ Q' hq => q.run X S σ H at_ Q' fun v H' d M' c1 s1 r1 ⟨j, ds2, k, n, z, e2, hj, h1, h2, h3, h4, q⟩ => hq v H' d M' c1 s1 r1 (wa_nil (by
      subst e2
      exact ⟨j, ds2, z, _, hj, ⟨k, n, rfl, h1, h2, h3, h4, rfl⟩, q⟩))) hst⟩)
    hbase hfew hline hst (fun _ => rfl)
end
end PL
namespace PL
open PySem PySem.Spec PyProof.Rows L2

/-! ### dict cells -/
def keyD : Key → D
  | .inl i => .int i
  | .inr x => .str x
def lookK (kvs : List (Key × D)) (k : Key) : Option D := (kvs.find? fun kv => decide (kv.1 = k)).map (·.2)
def storeK (kvs : List (Key × D)) (k : Key) (d : D) : List (Key × D) :=
  if (kvs.any fun kv => decide (kv.1 = k)) = true then kvs.map (fun kv => if kv.1 = k then (kv.1, d) else kv) else kvs ++ [(k, d)]
section
variable {K : PySem.W.Frag} {A : AS} {H : Hp}
theorem RepK.length : ∀ {vs : List (Key × V)} {ds : List (Key × D)}, RepK K A H vs ds → vs.length = ds.length
  | _, _, .nil => rfl
  | _, _, .cons _ rs => by rw [List.length_cons, List.length_cons, rs.length]
theorem RepK.look : ∀ {vs : List (Key × V)} {ds : List (Key × D)} (k : Key), RepK K A H vs ds → (lookK ds k = none ∧ valV vs k = none) ∨ ∃ d v, lookK ds k = some d ∧ valV vs k = some v ∧ Rep K A H v d
  | _, _, _, .nil => .inl ⟨rfl, rfl⟩
  | _, _, k, .cons (k := k') (v := v) (d := d) r rs => by
    by_cases e : k' = k
    · refine .inr ⟨d, v, ?_, ?_, r⟩
      · simp [lookK, List.find?_cons, e]
      · simp [valV, List.find?_cons, e]
    · have h1 : ∀ ds : List (Key × D), lookK ((k', d) :: ds) k = lookK ds k := fun ds => by simp [lookK, List.find?_cons, e]
      have h2 : ∀ vs : List (Key × V), valV ((k', v) :: vs) k = valV vs k := fun vs => by simp [valV, List.find?_cons, e]
      rw [h1, h2]
      exact RepK.look k rs
theorem RepK.any : ∀ {vs : List (Key × V)} {ds : List (Key × D)} (k : Key), RepK K A H vs ds → (vs.any fun kv => decide (kv.1 = k)) = (ds.any fun kv => decide (kv.1 = k))
  | _, _, _, .nil => rfl
  | _, _, k, .cons _ rs => by rw [List.any_cons, List.any_cons, RepK.any k rs]
theorem RepK.append : ∀ {vs ws : List (Key × V)} {ds es : List (Key × D)}, RepK K A H vs ds → RepK K A H ws es → RepK K A H (vs ++ ws) (ds ++ es)
  | _, _, _, _, .nil, s => s
  | _, _, _, _, .cons r rs, s => .cons r (rs.append s)
theorem RepK.mapPut : ∀ {vs : List (Key × V)} {ds : List (Key × D)} (k : Key) {v : V} {d : D}, RepK K A H vs ds → Rep K A H v d → RepK K A H (vs.map (fun kv => if kv.1 = k then (kv.1, v) else kv)) (ds.map (fun kv => if kv.1 = k then (kv.1, d) else kv))
  | _, _, _, _, _, .nil, _ => .nil
  | _, _, k, v, d, .cons (k := k') r rs, q => by
    rw [List.map_cons, List.map_cons]
    by_cases e : k' = k
    · rw [if_pos e, if_pos e]
      exact .cons q (rs.mapPut k q)
    · rw [if_neg e, if_neg e]
      exact .cons r (rs.mapPut k q)
theorem RepK.put {vs : List (Key × V)} {ds : List (Key × D)} (k : Key) {v : V} {d : D} (rs : RepK K A H vs ds) (q : Rep K A H v d) : RepK K A H (putK vs k v) (storeK ds k d) := by
  unfold putK storeK
  rw [rs.any k]
  split
  · exact rs.mapPut k q
  · exact rs.append (.cons q .nil)
theorem Rep.key {v : V} {k : Key} (r : Rep K A H v (keyD k)) : v = kV k := by
  cases k <;> (cases r; rfl)
end
section
variable {c : Ctx} {X : Cx} {S : AS} {Γ Γ' : Gam} {M M' : Cells} {σ σ' : L2.St} {H H' : Hp} {a b e : Expr} {es : List Expr} {pos pos' : Pos} {Q : D → Cells → Prop} {R : Bool → Cells → Prop} {x : Str} {E : PEnds}
theorem Ctx.Is.hu1 (i : c.Is X) : X.A.units + 1 < cLine := by have := i.hu; omega
/-- d[k], the dict a cell -/
theorem we_dget (h : WE c a Γ M fun x M1 => WE c b Γ M1 fun y M2 => ∃ (p : Addr) (i : Nat) (kvs : List (Key × D)) (k : Key) (d : D), x = .ptr p ∧ M2[i]? = some (p, .dK kvs) ∧ y = keyD k ∧ lookK kvs k = some d ∧ Q d M2)
    (hs : NoSl b := by exact fun _ _ => rfl) : WE c (.Subscript a b pos) Γ M Q := .mk fun X S σ H at_ Q' hq =>
  PE.to (pe_dget at_.is.hu1 wE.pe wE.pe hs) (two h at_ fun v1 v2 H2 d1 d2 M2 c2 s2 r1 r2 ⟨p, i, kvs, k, d, e1, hi, e2, hl, q⟩ => by
    subst e1 e2; cases r1
    have ek := r2.key
    subst ek
    obtain ⟨o, ho, vs, e, rs⟩ := c2.at_ hi
    subst e
    rcases rs.look k with ⟨l, _⟩ | ⟨d', v, l1, l2, r⟩
    · rw [l] at hl; cases hl
    · rw [l1] at hl
      have := Option.some.inj hl
      subst this
      exact ⟨p, v, rfl, by rw [← l2]; exact DGet.k ho, hq _ _ _ _ c2 s2 r q⟩)
theorem we_din (h : WE c a Γ M fun y M1 => WE c b Γ M1 fun x M2 => ∃ (p : Addr) (i : Nat) (kvs : List (Key × D)) (k : Key), x = .ptr p ∧ M2[i]? = some (p, .dK kvs) ∧ y = keyD k ∧ Q (.bl (lookK kvs k).isSome) M2) (hm : behindInMarks .In b = false := by rfl) :
    WE c (.Compare a [.In] [b] pos) Γ M Q := .mk fun X S σ H at_ Q' hq =>
  PE.to (pe_cmp (pc_din at_.is.hu1 wE.pe wE.pe) hm) (two h at_ fun v1 v2 H2 d1 d2 M2 c2 s2 r1 r2 ⟨p, i, kvs, k, e1, hi, e2, q⟩ => by
    subst e1 e2; cases r2
    have ek := r1.key
    subst ek
    obtain ⟨o, ho, vs, e, rs⟩ := c2.at_ hi
    subst e
    refine ⟨p, valV vs k, rfl, DGet.k ho, ?_⟩
    have e3 : (valV vs k).isSome = (lookK kvs k).isSome := by
      rcases rs.look k with ⟨l, l'⟩ | ⟨d', v, l1, l2, r⟩
      · rw [l, l']; rfl
      · rw [l1, l2]; rfl
    rw [e3]
    exact hq _ _ _ _ c2 s2 .bl q)
theorem we_dnin (h : WE c a Γ M fun y M1 => WE c b Γ M1 fun x M2 => ∃ (p : Addr) (i : Nat) (kvs : List (Key × D)) (k : Key), x = .ptr p ∧ M2[i]? = some (p, .dK kvs) ∧ y = keyD k ∧ Q (.bl (!(lookK kvs k).isSome)) M2) (hm : behindInMarks .NotIn b = false := by rfl) :
    WE c (.Compare a [.NotIn] [b] pos) Γ M Q := .mk fun X S σ H at_ Q' hq =>
  PE.to (pe_cmp (pc_dnotin at_.is.hu1 wE.pe wE.pe) hm) (two h at_ fun v1 v2 H2 d1 d2 M2 c2 s2 r1 r2 ⟨p, i, kvs, k, e1, hi, e2, q⟩ => by
    subst e1 e2; cases r2
    have ek := r1.key
    subst ek
    obtain ⟨o, ho, vs, e, rs⟩ := c2.at_ hi
    subst e
    refine ⟨p, valV vs k, rfl, DGet.k ho, ?_⟩
    have e3 : (valV vs k).isSome = (lookK kvs k).isSome := by
      rcases rs.look k with ⟨l, l'⟩ | ⟨d', v, l1, l2, r⟩
      · rw [l, l']; rfl
      · rw [l1, l2]; rfl
    rw [e3]
    exact hq _ _ _ _ c2 s2 .bl q)
/-- {} -/
theorem we_dnew (h : ∀ p, Q (.ptr p) ((p, .dK []) :: M)) : WE c (.Dict [] [] pos) Γ M Q := .mk fun X S σ H at_ Q' hq =>
  PE.to pe_dnewK (fun p np => by
    have k := at_.core.cell (o := .dK []) (m := .dK []) np ⟨[], rfl, .nil⟩
    exact hq _ _ _ _ k.1 k.2 .ptr (h p))
/-- {k: v, ..}, two to four pairs, by a list of pairs -/
def WP (c : Ctx) : List (Expr × Expr) → Gam → Cells → (List (D × D) → Cells → Prop) → Prop
  | [], _, M, R => R [] M
  | (k, v) :: r, Γ, M, R => WE c k Γ M fun x M1 => WE c v Γ M1 fun y M2 => WP c r Γ M2 fun ps M3 => R ((x, y) :: ps) M3
theorem wp_nil {R : List (D × D) → Cells → Prop} (h : R [] M) : WP c [] Γ M R := h
theorem wp_cons {k v : Expr} {r : List (Expr × Expr)} {R : List (D × D) → Cells → Prop} (h : WE c k Γ M fun x M1 => WE c v Γ M1 fun y M2 => WP c r Γ M2 fun ps M3 => R ((x, y) :: ps) M3) : WP c ((k, v) :: r) Γ M R := h
theorem wp_pps : ∀ (kvs : List (Expr × Expr)) {R : List (D × D) → Cells → Prop} {M : Cells} {H : Hp}, WP c kvs Γ M R → At c X S Γ M σ H → ∀ {T : List (V × V) → Hp → Prop},
    (∀ ps H' ds M', Core c.K S M' H' → Step M M' H H' → Paired (fun (p : V × V) (d : D × D) => Rep c.K (av S M') H' p.1 d.1 ∧ Rep c.K (av S M') H' p.2 d.2) ps ds → R ds M' → T ps H') →
    tPairs (kvs.map fun kv => (wE X kv.1, wE X kv.2)) σ H T
  | [], R, M, H, h, at_, T, hT => hT [] H [] M at_.core .refl .nil h
  | (k, v) :: r, R, M, H, h, at_, T, hT => by
    show wE X k σ H fun x H1 => wE X v σ H1 fun y H2 => tPairs (r.map fun kv => (wE X kv.1, wE X kv.2)) σ H2 fun ps H3 => T ((x, y) :: ps) H3
    have h' : WE c k Γ M fun x M1 => WE c v Γ M1 fun y M2 => WP c r Γ M2 fun ps M3 => R ((x, y) :: ps) M3 := h
    exact two h' at_ fun v1 v2 H2 d1 d2 M2 c2 s2 r1 r2 q => wp_pps r q (at_.step c2 s2) fun ps H3 ds M3 c3 s3 rp q3 => hT _ _ _ _ c3 (s2.trans s3) (.cons ⟨r1.to s3.to, r2.to s3.to⟩ rp) q3
theorem we_disp {keys : List (Option Expr)} {values : List Expr} {kvs : List (Expr × Expr)} (hk : keys = kvs.map fun kv => some kv.1) (hv : values = kvs.map (·.2)) (h0 : kvs ≠ []) (h15 : kvs.length ≤ 15)
    (h : ∀ p, WP c kvs Γ ((p, .dK []) :: M) fun ps M1 => ∃ (i : Nat) (ks : List (Key × D)), M1[i]? = some (p, .dK []) ∧ ps = ks.map (fun kd => (keyD kd.1, kd.2)) ∧ ks.length ≤ 15 ∧ Q (.ptr p) (M1.set i (p, .dK (ks.foldl (fun acc kd => storeK acc kd.1 kd.2) [])))) :
    WE c (.Dict keys values pos) Γ M Q := .mk fun X S σ H at_ Q' hq => by
  subst hk hv
  have pps : ∀ l : List (Expr × Expr), PPs X pos (l.map fun kv => some kv.1) (l.map (·.2)) (l.map fun kv => (wE X kv.1, wE X kv.2)) := by
    intro l
    induction l with
    | nil => exact pps_nil
    | cons kv l ih => exact pps_cons wE.pe wE.pe ih
  refine PE.to (pe_disp (pps kvs) (by simp) (by simp) (by simpa using h0) (by simpa using h15)) (fun p np => ?_)
  have k := at_.core.cell (o := .dK []) (m := .dK []) np ⟨[], rfl, .nil⟩
  refine wp_pps kvs (h p) (at_.step k.1 k.2) fun ps H2 ds M2 c2 s2 rp ⟨i, ks, hi, e, hl15, q⟩ => ?_
  subst e
  obtain ⟨o, ho, vs, e, rs⟩ := c2.at_ hi
  cases rs
  subst e
  -- the values
  have : ∀ (ks : List (Key × D)) (ps : List (V × V)), Paired (fun (p : V × V) (d : D × D) => Rep c.K (av S M2) H2 p.1 d.1 ∧ Rep c.K (av S M2) H2 p.2 d.2) ps (ks.map fun kd => (keyD kd.1, kd.2)) →
      ∃ vs : List (Key × V), ps = vs.map (fun kv => (kV kv.1, kv.2)) ∧ RepK c.K (av S M2) H2 vs ks := by
    intro ks
    induction ks with
    | nil =>
      intro ps rp
      cases rp
      exact ⟨[], rfl, .nil⟩
    | cons kd ks ih =>
      intro ps rp
      rw [List.map_cons] at rp
      cases rp with
      | @cons p _ ps _ r1 r2 =>
        obtain ⟨vs, e, rs⟩ := ih _ r2
        have ek := r1.1.key
        exact ⟨(kd.1, p.2) :: vs, by rw [List.map_cons, e, ← ek], .cons r1.2 rs⟩
  obtain ⟨vs, e, rs⟩ := this ks ps rp
  have merge : ∀ (vs : List (Key × V)) (ks : List (Key × D)) (acc : List (Key × V)) (accd : List (Key × D)), RepK c.K (av S M2) H2 vs ks → RepK c.K (av S M2) H2 acc accd →
      RepK c.K (av S M2) H2 (mergeK acc vs) (ks.foldl (fun acc kd => storeK acc kd.1 kd.2) accd) := by
    intro vs
    induction vs with
    | nil =>
      intro ks acc accd r1 r2
      cases r1
      exact r2
    | cons v vs ih =>
      intro ks acc accd r1 r2
      cases r1 with
      | @cons k v d vs ds r rr => exact ih _ (putK acc k v) (storeK accd k d) rr (r2.put k r)
  have kp := c2.put (m' := .dK (ks.foldl (fun acc kd => storeK acc kd.1 kd.2) [])) (o := .dK (mergeK [] vs)) hi ⟨_, rfl, merge vs ks [] [] rs .nil⟩
  exact ⟨ho, vs, e, by rw [rs.length]; exact hl15, hq _ _ _ _ kp.1 ((k.2.trans s2).trans kp.2) .ptr q⟩

/-! ### built-in calls -/
theorem we_callB {id : String} {r : List V → Hp → VK → Prop} (hc : ∀ X : Cx, X.calm = true → CallR X (.builtin id) r) (hg : GlC c.sc x) (hm : c.mg x = none) (hv : bootBuiltins x = some (.builtin id))
    (h : WA c (e :: es) Γ M fun ds M1 => ∀ (S : AS) (H : Hp) (vs : List V), Core c.K S M1 H → Reps c.K (av S M1) H vs ds → ∀ Q' : VK, (∀ v H' d M', Core c.K S M' H' → Step M1 M' H H' → Rep c.K (av S M') H' v d → Q d M' → Q' v H') → r vs H Q')
    (hn : x ≠ "__name__" := by decide) (hdb : (x == ("__debug__" : Str)) = false := by decide) {p : Pos}
    (he : ∀ env, starEach (e :: es) env = (false, eval e env) :: starEach es env := by intro _; rfl) (hpl : ∀ env, (backTo pos (starEach es env)).any (·.1) = false := by intro _; rfl) : WE c (.Call (.Name x p) (e :: es) [] pos) Γ M Q := .mk fun X S σ H at_ Q' hq =>
  PE.to (pe_callB (hc X at_.is.calm) (at_.is.gl hg) (at_.is.mgN hm) hv wA.pa hn hdb (he _) (hpl _)) (h.run X S σ H at_ _ fun vs H1 ds M1 c1 s1 r1 q => q S H1 vs c1 r1 Q' fun v H' d M' c2 s2 r2 q2 => hq v H' d M' c2 (s1.trans s2) r2 q2)
theorem we_abs {p : Pos} (hg : GlC c.sc "abs") (hm : c.mg "abs" = none) (h : WE c e Γ M fun x M1 => ∃ i, x = .int i ∧ Q (.int (if i < 0 then -i else i)) M1)
    (he : ∀ env, starEach [e] env = (false, eval e env) :: starEach [] env := by intro _; rfl) : WE c (.Call (.Name "abs" p) [e] [] pos) Γ M Q :=
  we_callB (fun X _ => call_abs) hg hm (by decide +kernel) (wa_cons (.mk fun X S σ H at_ Q' hq => h.run X S σ H at_ Q' fun v H' d M' c1 s1 r1 ⟨i, e1, q⟩ => hq v H' d M' c1 s1 r1 (wa_nil (by
    subst e1
    intro S2 H2 vs c2 r2 Q2 hq2
    cases r2 with
    | cons r r' =>
      cases r'; cases r
      exact ⟨i, rfl, hq2 _ _ _ _ c2 .refl .int q⟩))) he) (he := he) (hpl := fun _ => rfl)
theorem we_min2 {p : Pos} {e' : Expr} (hg : GlC c.sc "min") (hm : c.mg "min" = none) (h : WE c e Γ M fun x M1 => WE c e' Γ M1 fun y M2 => ∃ i j, x = .int i ∧ y = .int j ∧ Q (.int (if j < i then j else i)) M2)
    (he : ∀ env, starEach [e, e'] env = (false, eval e env) :: starEach [e'] env := by intro _; rfl) (he2 : ∀ env, starEach [e'] env = (false, eval e' env) :: starEach [] env := by intro _; rfl) : WE c (.Call (.Name "min" p) [e, e'] [] pos) Γ M Q :=
  we_callB (fun X hc => call_min2 hc) hg hm (by decide +kernel) (wa_cons (.mk fun X S σ H at_ Q' hq => h.run X S σ H at_ Q' fun v H' d M' c1 s1 r1 q0 => hq v H' d M' c1 s1 r1 (wa_cons (.mk fun X S σ H at_ Q' hq => q0.run X S σ H at_ Q' fun v H' d' M' c1 s1 r1 ⟨i, j, e1, e2, q⟩ => hq v H' d' M' c1 s1 r1 (wa_nil (by
    subst e1 e2
    intro S2 H2 vs c2 r2 Q2 hq2
    cases r2 with
    | cons r r' =>
      cases r' with
      | cons r1 r2 =>
        cases r2; cases r; cases r1
        exact ⟨i, j, rfl, hq2 _ _ _ _ c2 .refl .int q⟩))) he2)) he) (he := he) (hpl := fun env => by rw [he2]; rfl)
theorem we_max2 {p : Pos} {e' : Expr} (hg : GlC c.sc "max") (hm : c.mg "max" = none) (h : WE c e Γ M fun x M1 => WE c e' Γ M1 fun y M2 => ∃ i j, x = .int i ∧ y = .int j ∧ Q (.int (if j > i then j else i)) M2)
    (he : ∀ env, starEach [e, e'] env = (false, eval e env) :: starEach [e'] env := by intro _; rfl) (he2 : ∀ env, starEach [e'] env = (false, eval e' env) :: starEach [] env := by intro _; rfl) : WE c (.Call (.Name "max" p) [e, e'] [] pos) Γ M Q :=
  we_callB (fun X hc => call_max2 hc) hg hm (by decide +kernel) (wa_cons (.mk fun X S σ H at_ Q' hq => h.run X S σ H at_ Q' fun v H' d M' c1 s1 r1 q0 => hq v H' d M' c1 s1 r1 (wa_cons (.mk fun X S σ H at_ Q' hq => q0.run X S σ H at_ Q' fun v H' d' M' c1 s1 r1 ⟨i, j, e1, e2, q⟩ => hq v H' d' M' c1 s1 r1 (wa_nil (by
    subst e1 e2
    intro S2 H2 vs c2 r2 Q2 hq2
    cases r2 with
    | cons r r' =>
      cases r' with
      | cons r1 r2 =>
        cases r2; cases r; cases r1
        exact ⟨i, j, rfl, hq2 _ _ _ _ c2 .refl .int q⟩))) he2)) he) (he := he) (hpl := fun env => by rw [he2]; rfl)
theorem we_len {p : Pos} (hg : GlC c.sc "len") (hm : c.mg "len" = none) (h : WE c e Γ M fun x M1 => ∃ ds, (View M1 x (.lst ds) ∨ View M1 x (.tup ds)) ∧ Q (.int (ds.length : Int)) M1)
    (he : ∀ env, starEach [e] env = (false, eval e env) :: starEach [] env := by intro _; rfl) : WE c (.Call (.Name "len" p) [e] [] pos) Γ M Q :=
  .mk fun X S σ H at_ Q' hq => PE.to (pe_callB call_len_seq (at_.is.gl hg) (at_.is.mgN hm) PySem.boot_len wA.pa (by decide) (by decide) (he _) rfl) ((wa_cons (c := c) (R := fun ds M1 => ∃ x zs, ds = [x] ∧ (View M1 x (.lst zs) ∨ View M1 x (.tup zs)) ∧ Q (.int (zs.length : Int)) M1) (.mk fun X S σ H at_ Q' hq => h.run X S σ H at_ Q' fun v H' d M' c1 s1 r1 ⟨ds, w, q⟩ => hq v H' d M' c1 s1 r1 (wa_nil ⟨d, ds, rfl, w, q⟩)) he).run X S σ H at_ _ (fun vs H1 ds M1 c1 s1 r1 ⟨x, zs, e1, w, q⟩ => by
    subst e1
    cases r1 with
    | cons r r' =>
      cases r'
      rw [at_.is.K]
      rcases w with w | w
      · have rr := w.rep c1 r
        cases rr with
        | lst h1 h2 => exact ⟨_, _, rfl, .inl h1.sq, by rw [h2.length]; exact hq _ _ _ _ c1 s1 .int q⟩
      · have rr := w.rep c1 r
        cases rr with
        | tup h1 h2 => exact ⟨_, _, rfl, .inr h1.sq, by rw [h2.length]; exact hq _ _ _ _ c1 s1 .int q⟩))
end
end PL
namespace PL
open PySem PySem.Spec PyProof.Rows L2

def wGs (X : Cx) (tgs : List Expr) : TGs := fun vs σ H Q => ∀ pins s us, Inv X pins σ H s → Vals vs us → wpAny (model X.prog X.w) X.A (assignInOrder ((assignEach tgs X.env).map (·.2)) us) (fun _ s' => ∃ σ' H', Inv X pins σ' H' s' ∧ Q σ' H') X.xe s
theorem wGs.pgs {X : Cx} {es : List Expr} : PGs X es (wGs X es) := ⟨fun pins s σ H vs us Q I r h => h pins s us I r⟩
theorem PGs.to {X : Cx} {es : List Expr} {t : TGs} {v σ H Q} (h : PGs X es t) (q : t v σ H Q) : wGs X es v σ H Q := fun pins s u I r => h.run pins s σ H v u Q I r q
structure WGs (c : Ctx) (tgs : List Expr) (ds : List D) (Γ : Gam) (M : Cells) (E : Gam → Cells → Prop) : Prop where
  run : ∀ X S σ H, At c X S Γ M σ H → ∀ vs, Reps c.K (av S M) H vs ds → ∀ Q' : L2.St → Hp → Prop, (∀ σ' H' Γ' M', Core c.K S M' H' → Slots c.K (av S M') H' Γ' σ' → Step M M' H H' → E Γ' M' → Q' σ' H') → wGs X tgs vs σ H Q'
section
variable {c : Ctx} {X : Cx} {S : AS} {Γ Γ' : Gam} {M M' : Cells} {σ σ' : L2.St} {H H' : Hp} {a b e tg : Expr} {es tgs : List Expr} {pos pos' : Pos} {Q : D → Cells → Prop} {R : Bool → Cells → Prop} {x : Str} {E : PEnds} {st : Stmt} {rest s1 s2 body : List Stmt} {d : D} {ds : List D} {G : Gam → Cells → Prop}

/-! ### targets -/
theorem wg_name {i : Nat} (hN : c.N[i]? = some x) (hl : LocC c.sc x) (h : G (Γ.set i (some d)) M) : WG c (.Name x pos) d Γ M G := .mk fun X S σ H at_ v r Q' hq =>
  PG.to (pg_name at_.is.nd (at_.is.nm hN) (at_.is.loc hl) (at_.is.st hl)) (hq _ _ _ _ at_.core (at_.slots.set r) .refl h)
theorem wgs_nil (h : G Γ M) : WGs c [] [] Γ M G := .mk fun X S σ H at_ vs r Q' hq => by
  cases r
  exact PGs.to pgs_nil ⟨rfl, hq _ _ _ _ at_.core at_.slots .refl h⟩
theorem wgs_cons (h : WG c tg d Γ M fun Γ1 M1 => WGs c tgs ds Γ1 M1 G) (hs : ∀ env, (assignEach (tg :: tgs) env).map (·.2) = assign tg env :: (assignEach tgs env).map (·.2) := by intro _; rfl) : WGs c (tg :: tgs) (d :: ds) Γ M G := .mk fun X S σ H at_ vs r Q' hq => by
  cases r with
  | cons r rs =>
    exact PGs.to (pgs_cons wG.pg wGs.pgs (hs _)) ⟨_, _, rfl, h.run X S σ H at_ _ r _ fun σ1 H1 Γ1 M1 c1 sl1 st1 q => q.run X S σ1 H1 (at_.slot c1 sl1 st1) _ (rs.to st1.to) _ fun σ2 H2 Γ2 M2 c2 sl2 st2 q2 => hq _ _ _ _ c2 sl2 (st1.trans st2) q2⟩
theorem wg_tup {k : Nat} (hl : tgs.length = ds.length) (h : WGs c tgs ds Γ M G) (hn : ∀ env, (assignEach tgs env).length = tgs.length := by intro _; rfl) (hst : ∀ env, (assignEach tgs env).findIdx? (·.1) = none := by intro _; rfl) : WG c (.Tuple tgs k pos) (.tup ds) Γ M G := .mk fun X S σ H at_ v r Q' hq => by
  cases r with
  | tup h1 h2 =>
    refine PG.to (pg_tup at_.is.calm wGs.pgs (hn _) (hst _)) ⟨_, _, rfl, ?_, by rw [h2.length, hl], h.run X S σ H at_ _ h2 _ hq⟩
    rw [at_.is.K]
    exact h1.sq

/-! ### statements -/
theorem wss_nil (h : E.nx Γ M) : WSs c [] E Γ M := .mk fun X S σ H at_ Ds l => PSs.to pss_nil (l.nx _ _ _ _ at_.core at_.slots .refl h)
theorem wss_cons (h : WS c st { E with nx := fun Γ1 M1 => WSs c rest E Γ1 M1 } Γ M) : WSs c (st :: rest) E Γ M := .mk fun X S σ H at_ Ds l =>
  PSs.to (pss_cons wS.ps wSs.pss) (h.run X S σ H at_ { Ds with nx := wSs X rest Ds } ⟨fun σ1 H1 Γ1 M1 c1 sl1 st1 q => q.run X S σ1 H1 (at_.slot c1 sl1 st1) Ds (l.step st1), l.rt, l.bk, l.ct⟩)
theorem ws_asg {i : Nat} (hN : c.N[i]? = some x) (hl : LocC c.sc x) (h : WE c e Γ M fun d M1 => E.nx (Γ.set i (some d)) M1) (hs : ∀ env, swapsWith e (some (.Name x pos')) pos.line env = pure false := by intro _; rfl) :
    WS c (.Assign [.Name x pos'] e pos) E Γ M := .mk fun X S σ H at_ Ds l =>
  PS.to (ps_set at_.is.nd (at_.is.nm hN) (at_.is.loc hl) wE.pe (hs _) (at_.is.st hl)) (h.run X S σ H at_ _ fun v H1 d M1 c1 s1 r1 q => l.nx _ _ _ _ c1 ((at_.slots.to s1.to).set r1) s1 q)
theorem ws_asgG (h : WE c e Γ M fun d M1 => WG c tg d Γ M1 E.nx) (hs : ∀ env, swapsWithSole [tg] e pos.line env = pure false := by intro _; rfl) (hw : ∀ env, env.scope = c.sc → swappedStores [tg] e env = pure none := by first | (intro _ _; rfl) | (rintro ⟨_, _, _, _, _, _, _, _, _⟩ rfl; rfl))
    (h1 : ∀ env, (assignEach [tg] env).map (·.2) = [assign tg env] := by intro _; rfl) : WS c (.Assign [tg] e pos) E Γ M := .mk fun X S σ H at_ Ds l =>
  PS.to (ps_asg wE.pe wG.pg (hs _) (hw _ at_.is.sc) (h1 _)) (h.run X S σ H at_ _ fun v H1 d M1 c1 s1 r1 q => q.run X S σ H1 (at_.step c1 s1) _ r1 _ fun σ2 H2 Γ2 M2 c2 sl2 s2 q2 => l.nx _ _ _ _ c2 sl2 (s1.trans s2) q2)
/-- x, y = a, b -/
theorem ws_par {i j : Nat} {y : Str} {px py pt pt2 : Pos} {kt k2 : Nat} (hi : c.N[i]? = some x) (hj : c.N[j]? = some y) (hij : i ≠ j) (hx : c.sc.names.lookup x = some .local) (hy : c.sc.names.lookup y = some .local)
    (h : WE c a Γ M fun d M1 => WE c b Γ M1 fun d2 M2 => E.nx ((Γ.set i (some d)).set j (some d2)) M2)
    (hw : ∀ env, env.scope = c.sc → swappedStores [.Tuple [.Name x px, .Name y py] kt pt] (.Tuple [a, b] k2 pt2) env = pure (some [x, y]) := by first | (rintro ⟨_, _, _, _, _, _, _, _, _⟩ rfl; rfl))
    (hs : ∀ env, swapsWithSole [.Tuple [.Name x px, .Name y py] kt pt] (.Tuple [a, b] k2 pt2) pos.line env = pure false := by intro _; rfl)
    (hst : ∀ env, starEach [a, b] env = (false, eval a env) :: starEach [b] env := by intro _; rfl) (hst2 : ∀ env, starEach [b] env = (false, eval b env) :: starEach [] env := by intro _; rfl) :
    WS c (.Assign [.Tuple [.Name x px, .Name y py] kt pt] (.Tuple [a, b] k2 pt2) pos) E Γ M := .mk fun X S σ H at_ Ds l =>
  PS.to (ps_par at_.is.calm at_.is.nd (at_.is.nm hi) (at_.is.nm hj) hij (by rw [at_.is.sc]; exact hx) (by rw [at_.is.sc]; exact hy) (pa_cons wE.pe (pa_cons wE.pe pa_nil (hst2 _)) (hst _)) (hw _ at_.is.sc) (hs _))
    (two h at_ fun v1 v2 H2 d1 d2 M2 c2 s2 r1 r2 q => ⟨v1, v2, rfl, l.nx _ _ _ _ c2 (((at_.slots.to s2.to).set r1).set r2) s2 q⟩)
theorem ws_aug {i : Nat} {op : Operator} {f : Int → Int → Int} {k : Int} (hop : ∀ X : Cx, PIp X op (ipI f)) (hN : c.N[i]? = some x) (hl : LocC c.sc x) (hΓ : Γ[i]? = some (some (.int k))) (h : WE c e Γ M fun d M1 => ∃ j, d = .int j ∧ E.nx (Γ.set i (some (.int (f k j)))) M1) :
    WS c (.AugAssign (.Name x pos') op e pos) E Γ M := .mk fun X S σ H at_ Ds l => by
  obtain ⟨v, hv, r⟩ := at_.slots.at_ i _ hΓ
  cases r
  refine PS.to (ps_aug at_.is.nd (at_.is.nm hN) (at_.is.loc hl) wE.pe (hop X) (at_.is.st hl)) ⟨_, hv, h.run X S σ H at_ _ fun v H1 d M1 c1 s1 r1 ⟨j, e1, q⟩ => ?_⟩
  subst e1; cases r1
  exact ⟨k, j, rfl, rfl, l.nx _ _ _ _ c1 ((at_.slots.to s1.to).set .int) s1 q⟩
theorem ws_add {i : Nat} {k : Int} (hN : c.N[i]? = some x) (hl : LocC c.sc x) (hΓ : Γ[i]? = some (some (.int k))) (h : WE c e Γ M fun d M1 => ∃ j, d = .int j ∧ E.nx (Γ.set i (some (.int (k + j)))) M1) : WS c (.AugAssign (.Name x pos') .Add e pos) E Γ M :=
  ws_aug (f := fun i j => i + j) (fun X => ip_add) hN hl hΓ h
theorem ws_expr (h : WE c e Γ M fun _ M1 => E.nx Γ M1) (hs : ∀ env, swapsWith e none pos.line env = pure false := by intro _; rfl) : WS c (.Expr e pos) E Γ M := .mk fun X S σ H at_ Ds l =>
  PS.to (ps_expr wE.pe (hs _)) (h.run X S σ H at_ _ fun v H1 d M1 c1 s1 r1 q => l.nx _ _ _ _ c1 (at_.slots.to s1.to) s1 q)
theorem ws_ret (h : WE c e Γ M E.rt) : WS c (.Return (some e) pos) E Γ M := .mk fun X S σ H at_ Ds l =>
  PS.to (ps_ret wE.pe) (h.run X S σ H at_ _ fun v H1 d M1 c1 s1 r1 q => l.rt _ _ _ _ c1 s1 r1 q)
theorem ws_retN (h : E.rt .non M) : WS c (.Return none pos) E Γ M := .mk fun X S σ H at_ Ds l =>
  PS.to ps_retN (l.rt _ _ _ _ at_.core .refl .non h)
theorem ws_pass (h : E.nx Γ M) : WS c (.Pass pos) E Γ M := .mk fun X S σ H at_ Ds l => PS.to ps_pass (l.nx _ _ _ _ at_.core at_.slots .refl h)
theorem ws_break (h : E.bk Γ M) : WS c (.Break pos) E Γ M := .mk fun X S σ H at_ Ds l => PS.to ps_break (l.bk _ _ _ _ at_.core at_.slots .refl h)
theorem ws_cont (h : E.ct Γ M) : WS c (.Continue pos) E Γ M := .mk fun X S σ H at_ Ds l => PS.to ps_continue (l.ct _ _ _ _ at_.core at_.slots .refl h)
theorem ws_never (h : False) : WS c st E Γ M := h.elim
theorem ws_if (h : WT c e Γ M fun k M1 => Br k (WSs c s1 E Γ M1) (WSs c s2 E Γ M1)) : WS c (.If e s1 s2 pos) E Γ M := .mk fun X S σ H at_ Ds l =>
  PS.to (ps_if wT.pt wSs.pss wSs.pss) (h.run X S σ H at_ _ fun k H1 M1 c1 st1 q => by
    cases k with
    | true => exact (q.1 rfl).run X S σ H1 (at_.step c1 st1) Ds (l.step st1)
    | false => exact (q.2 rfl).run X S σ H1 (at_.step c1 st1) Ds (l.step st1))
/-- what follows is shown once, from Mid -/
theorem wss_cut (Mid : Gam → Cells → Prop) (h1 : WS c st { E with nx := Mid } Γ M) (h2 : ∀ Γ1 M1, Mid Γ1 M1 → WSs c rest E Γ1 M1) : WSs c (st :: rest) E Γ M :=
  wss_cons (.mk fun X S σ H at_ Ds l => h1.run X S σ H at_ Ds ⟨fun σ1 H1 Γ1 M1 c1 sl1 st1 q => l.nx _ _ _ _ c1 sl1 st1 (h2 Γ1 M1 q), l.rt, l.bk, l.ct⟩)
/-- d[k] = v -/
theorem ws_dput (h : WE c e Γ M fun z M1 => WE c a Γ M1 fun x M2 => WE c b Γ M2 fun y M3 => ∃ (p : Addr) (i : Nat) (kvs : List (Key × D)) (k : Key), x = .ptr p ∧ M3[i]? = some (p, .dK kvs) ∧ y = keyD k ∧ kvs.length < sizeLine ∧ E.nx Γ (M3.set i (p, .dK (storeK kvs k z))))
    (hs : ∀ env, swapsWith e (some (.Subscript a b pos')) pos.line env = pure false := by intro _; rfl) : WS c (.Assign [.Subscript a b pos'] e pos) E Γ M := .mk fun X S σ H at_ Ds l =>
  PS.to (ps_dput at_.is.hu1 wE.pe wE.pe wE.pe (hs _)) (h.run X S σ H at_ _ fun v1 H1 d1 M1 c1 s1 r1 q1 => two q1 (at_.step c1 s1) fun v2 v3 H3 d2 d3 M3 c3 s3 r2 r3 ⟨p, i, kvs, k, e1, hi, e2, hl, q⟩ => by
    subst e1 e2; cases r2
    have ek := r3.key
    subst ek
    obtain ⟨o, ho, vs, e, rs⟩ := c3.at_ hi
    subst e
    have kp := c3.put (m' := .dK (storeK kvs k d1)) (o := .dK (putK vs k v1)) hi ⟨_, rfl, rs.put k (r1.to s3.to)⟩
    exact ⟨p, _, rfl, DPut.k ho (by rw [rs.length]; exact hl), l.nx _ _ _ _ kp.1 (at_.slots.to ((s1.trans s3).trans kp.2).to) ((s1.trans s3).trans kp.2) q⟩)
/-- d[k] += v, ints -/
theorem ws_dadd (h : WE c a Γ M fun x M1 => WE c b Γ M1 fun y M2 => ∃ (p : Addr) (i : Nat) (kvs : List (Key × D)) (k : Key) (n : Int), x = .ptr p ∧ M2[i]? = some (p, .dK kvs) ∧ y = keyD k ∧ lookK kvs k = some (.int n) ∧
      WE c e Γ M2 fun z M3 => ∃ (j : Nat) (kvs2 : List (Key × D)) (m : Int), z = .int m ∧ M3[j]? = some (p, .dK kvs2) ∧ kvs2.length < sizeLine ∧ E.nx Γ (M3.set j (p, .dK (storeK kvs2 k (.int (n + m))))))
    (ha : ∀ ov iv new, augStore b ov iv new = (do holding [new, ov, iv] (setItem ov iv new); release [new, ov, iv] []; pure .next) := by intros; rfl) : WS c (.AugAssign (.Subscript a b pos') .Add e pos) E Γ M := .mk fun X S σ H at_ Ds l =>
  PS.to (ps_daug at_.is.hu1 wE.pe wE.pe wE.pe in_add ha) (two h at_ fun v1 v2 H2 d1 d2 M2 c2 s2 r1 r2 ⟨p, i, kvs, k, n, e1, hi, e2, hl, q⟩ => by
    subst e1 e2; cases r1
    have ek := r2.key
    subst ek
    obtain ⟨o, ho, vs, e, rs⟩ := c2.at_ hi
    subst e
    rcases rs.look k with ⟨l', _⟩ | ⟨d', v, l1, l2, r⟩
    · rw [l'] at hl; cases hl
    · rw [l1] at hl
      have := Option.some.inj hl
      subst this
      cases r
      refine ⟨p, .int n, rfl, by rw [← l2]; exact DGet.k ho, q.run X S σ H2 (at_.step c2 s2) _ fun v3 H3 d3 M3 c3 s3 r3 ⟨j, kvs2, m, e3, hj, hl2, q3⟩ => ?_⟩
      subst e3; cases r3
      obtain ⟨o2, ho2, vs2, e2, rs2⟩ := c3.at_ hj
      subst e2
      have kp := c3.put (m' := .dK (storeK kvs2 k (.int (n + m)))) (o := .dK (putK vs2 k (.int (n + m)))) hj ⟨_, rfl, rs2.put k .int⟩
      exact ⟨n, m, rfl, rfl, _, DPut.k ho2 (by rw [rs2.length]; exact hl2), l.nx _ _ _ _ kp.1 (at_.slots.to ((s2.trans s3).trans kp.2).to) ((s2.trans s3).trans kp.2) q3⟩)
/-- a list cell's item stored -/
theorem ws_lput (h : WE c e Γ M fun z M1 => WE c a Γ M1 fun x M2 => WE c b Γ M2 fun y M3 => ∃ (p : Addr) (i : Nat) (ds : List D) (k : Int) (j : Nat), x = .ptr p ∧ M3[i]? = some (p, .lst ds) ∧ y = .int k ∧ ixN ds.length k = some j ∧ E.nx Γ (M3.set i (p, .lst (ds.set j z))))
    (hs : ∀ env, swapsWithSole [.Subscript a b pos'] e pos.line env = pure false := by intro _; rfl) (hw : ∀ env, swappedStores [.Subscript a b pos'] e env = pure none := by intro _; rfl) (h1 : ∀ env, (assignEach [.Subscript a b pos'] env).map (·.2) = [assign (.Subscript a b pos') env] := by intro _; rfl)
    (ha : ∀ env v, assign (.Subscript a b pos') env v = (do
      let ov ← holding [v] (eval a env)
      let iv ← holding [v, ov] (eval b env)
      standAt pos'
      holding [v, ov, iv] (setItem ov iv v)
      release [v, ov, iv] []) := by intro _ _; rfl) : WS c (.Assign [.Subscript a b pos'] e pos) E Γ M := .mk fun X S σ H at_ Ds l =>
  PS.to (ps_asg wE.pe (pg_sub wE.pe wE.pe set_list (ha _)) (hs _) (hw _) (h1 _)) (h.run X S σ H at_ _ fun v1 H1 d1 M1 c1 s1 r1 q1 => two q1 (at_.step c1 s1) fun v2 v3 H3 d2 d3 M3 c3 s3 r2 r3 ⟨p, i, ds, k, j, e1, hi, e2, hj, q⟩ => by
    subst e1 e2; cases r2; cases r3
    obtain ⟨o, ho, vs, e, rs⟩ := c3.at_ hi
    subst e
    have kp := c3.put (m' := .lst (ds.set j d1)) (o := .lst (vs.set j v1)) hi ⟨_, rfl, rs.set j (r1.to s3.to)⟩
    exact ⟨p, vs, k, j, rfl, rfl, ho, by rw [rs.length]; exact hj, l.nx _ _ _ _ kp.1 (at_.slots.to ((s1.trans s3).trans kp.2).to) ((s1.trans s3).trans kp.2) q⟩)

/-! ### the list that was made is done: it is data from now on -/
theorem Core.freeze (cr : Core c.K S M H) {i : Nat} {p : Addr} {ds : List D} (h : M[i]? = some (p, .lst ds)) : Core c.K S (M.eraseIdx i) H ∧ Rep c.K (av S (M.eraseIdx i)) H (.ref p) (.lst ds) ∧ Step M (M.eraseIdx i) H H := by
  have sub : (M.eraseIdx i).Sublist M := List.eraseIdx_sublist _ _
  have subd : (dom (M.eraseIdx i)).Sublist (dom M) := sub.map _
  have np : p ∉ dom (M.eraseIdx i) := by
    intro z
    obtain ⟨q, hq, e⟩ := List.mem_map.mp z
    obtain ⟨j, hj⟩ := List.getElem?_of_mem hq
    rw [List.getElem?_eraseIdx] at hj
    have e1 : (dom M)[i]? = some p := by unfold dom; rw [List.getElem?_map, h]; rfl
    have nd := cr.nod
    obtain ⟨h1, g1⟩ := List.getElem?_eq_some_iff.mp e1
    have fin : ∀ m, (dom M)[m]? = some p → m = i := fun m hm => by
      obtain ⟨h2, g2⟩ := List.getElem?_eq_some_iff.mp hm
      exact (List.getElem_inj nd).mp (g2.trans g1.symm)
    split at hj
    · have := fin j (by unfold dom; rw [List.getElem?_map, hj]; show some q.1 = some p; rw [e])
      omega
    · have := fin (j + 1) (by unfold dom; rw [List.getElem?_map, hj]; show some q.1 = some p; rw [e])
      omega
  have st : Step M (M.eraseIdx i) H H := ⟨fun _ _ _ h => h, fun _ h => h, fun b hb => .inl (subd.subset hb)⟩
  obtain ⟨o, ho, vs, e, rs⟩ := cr.at_ h
  subst e
  have hp : p ∈ dom M := List.mem_map.mpr ⟨_, List.mem_of_getElem? h, rfl⟩
  refine ⟨⟨cr.known, cr.nod.sublist subd, fun a ha => cr.dis a (subd.subset ha), fun q hq => CellAt.to st.to (fun _ e => e) (cr.cells q (sub.subset hq))⟩, .lst (.inl ⟨fun z => ?_, .inl ho⟩) (rs.to st.to), st⟩
  rcases z with z | z
  · exact cr.dis p hp z
  · exact np z
theorem wss_freeze {j i : Nat} {p : Addr} {ds : List D} (hΓ : Γ[j]? = some (some (.ptr p))) (hM : M[i]? = some (p, .lst ds)) (h : WSs c rest E (Γ.set j (some (.lst ds))) (M.eraseIdx i)) : WSs c rest E Γ M := .mk fun X S σ H at_ Ds l => by
  obtain ⟨c1, r1, s1⟩ := at_.core.freeze hM
  obtain ⟨v, hv, r⟩ := at_.slots.at_ j _ hΓ
  cases r
  have sl := (at_.slots.to s1.to).set (i := j) r1
  have e : σ.set j (some (V.ref p)) = σ := by
    obtain ⟨h1, g1⟩ := List.getElem?_eq_some_iff.mp hv
    rw [← g1, List.set_getElem_self]
  rw [e] at sl
  exact h.run X S σ H (at_.slot c1 sl s1) Ds (l.step s1)
/-- cells that nobody needs any more -/
theorem wss_drop {i : Nat} (h : WSs c rest E Γ (M.eraseIdx i)) : WSs c rest E Γ M := .mk fun X S σ H at_ Ds l => by
  have sub : (M.eraseIdx i).Sublist M := List.eraseIdx_sublist _ _
  have subd : (dom (M.eraseIdx i)).Sublist (dom M) := sub.map _
  have st : Step M (M.eraseIdx i) H H := ⟨fun _ _ _ h => h, fun _ h => h, fun b hb => .inl (subd.subset hb)⟩
  exact h.run X S σ H (at_.step ⟨at_.core.known, at_.core.nod.sublist subd, fun a ha => at_.core.dis a (subd.subset ha), fun q hq => CellAt.to st.to (fun _ e => e) (at_.core.cells q (sub.subset hq))⟩ st) Ds (l.step st)

/-! ### loops -/
theorem ws_while (Inv : Nat → Gam → Cells → Prop) (m0 : Nat) (h0 : Inv m0 Γ M)
    (hs : ∀ m Γ1 M1, Inv m Γ1 M1 → WT c e Γ1 M1 fun k M2 => Br k (WSs c body { nx := fun Γ3 M3 => ∃ m', m' < m ∧ Inv m' Γ3 M3, ct := fun Γ3 M3 => ∃ m', m' < m ∧ Inv m' Γ3 M3, bk := E.nx, rt := E.rt } Γ1 M2) (E.nx Γ1 M2)) :
    WS c (.While e body [] pos) E Γ M := .mk fun X S σ H at_ Ds l =>
  PS.to (ps_while at_.is.po wT.pt wSs.pss) ⟨fun m σ1 H1 => ∃ Γ1 M1, Core c.K S M1 H1 ∧ Slots c.K (av S M1) H1 Γ1 σ1 ∧ Step M M1 H H1 ∧ Inv m Γ1 M1, ⟨m0, Γ, M, at_.core, at_.slots, .refl, h0⟩, fun m σ1 H1 ⟨Γ1, M1, c1, sl1, st1, hi⟩ => by
    refine (hs m Γ1 M1 hi).run X S σ1 H1 (at_.slot c1 sl1 st1) _ fun k H2 M2 c2 st2 q => ?_
    cases k with
    | true =>
      refine ⟨fun σ3 H3 => ∃ m', m' < m ∧ ∃ Γ3 M3, Core c.K S M3 H3 ∧ Slots c.K (av S M3) H3 Γ3 σ3 ∧ Step M M3 H H3 ∧ Inv m' Γ3 M3, fun σ3 H3 ⟨m', hm, w⟩ => ⟨m', hm, w⟩, ?_⟩
      refine (q.1 rfl).run X S σ1 H2 ((at_.slot c1 sl1 st1).step c2 st2) _ ⟨?_, ?_, ?_, ?_⟩
      · rintro σ3 H3 Γ3 M3 c3 sl3 st3 ⟨m', hm, q3⟩
        exact ⟨m', hm, Γ3, M3, c3, sl3, (st1.trans st2).trans st3, q3⟩
      · intro v H3 d M3 c3 st3 r3 q3
        exact l.rt v H3 d M3 c3 ((st1.trans st2).trans st3) r3 q3
      · intro σ3 H3 Γ3 M3 c3 sl3 st3 q3
        exact l.nx σ3 H3 Γ3 M3 c3 sl3 ((st1.trans st2).trans st3) q3
      · rintro σ3 H3 Γ3 M3 c3 sl3 st3 ⟨m', hm, q3⟩
        exact ⟨m', hm, Γ3, M3, c3, sl3, (st1.trans st2).trans st3, q3⟩
    | false => exact l.nx σ1 H2 Γ1 M2 c2 (sl1.to st2.to) (st1.trans st2) (q.2 rfl)⟩
theorem split_at {α : Type} {xs : List α} {i : Nat} {x : α} (h : xs[i]? = some x) : xs = xs.take i ++ x :: xs.drop (i + 1) ∧ xs.take (i + 1) = xs.take i ++ [x] := by
  obtain ⟨hi, e⟩ := List.getElem?_eq_some_iff.mp h
  refine ⟨?_, ?_⟩
  · rw [← e, List.getElem_cons_drop, List.take_append_drop]
  · rw [List.take_succ, h]; rfl
/-- for over a list (a tuple) of data; Inv by what was taken -/
theorem ws_forL {α : Type} (xs : List α) (f : α → D) (Inv : List α → Gam → Cells → Prop)
    (h : WE c e Γ M fun d M1 => d = .lst (xs.map f) ∧ Inv [] Γ M1 ∧
      (∀ pre y post Γ2 M2, xs = pre ++ y :: post → Inv pre Γ2 M2 → WG c tg (f y) Γ2 M2 fun Γ3 M3 => WSs c body { nx := Inv (pre ++ [y]), ct := Inv (pre ++ [y]), bk := E.nx, rt := E.rt } Γ3 M3) ∧ ∀ Γ2 M2, Inv xs Γ2 M2 → E.nx Γ2 M2)
    (hs : ∀ env x, foldedSetIterable e env x = pure x := by intro _ _; rfl) : WS c (.For tg e body [] pos) E Γ M := .mk fun X S σ H at_ Ds l => by
  refine PS.to (ps_for at_.is.po at_.is.calm (pi_list wE.pe) wG.pg wSs.pss (hs _)) (h.run X S σ H at_ _ fun v1 H1 d1 M1 c1 s1 r1 ⟨e1, inv0, step, fin⟩ => ?_)
  subst e1
  cases r1 with
  | lst h1 h2 =>
    rename_i a vs
    have hl : vs.length = xs.length := by rw [h2.length, List.length_map]
    refine ⟨_, rfl, ⟨_, by rw [at_.is.K]; exact h1.sq⟩, for_list (xs := vs) (fun i σ2 H2 => ∃ Γ2 M2, Core c.K S M2 H2 ∧ Slots c.K (av S M2) H2 Γ2 σ2 ∧ Step M1 M2 H1 H2 ∧ Inv (xs.take i) Γ2 M2)
      ⟨Γ, M1, c1, at_.slots.to s1.to, .refl, inv0⟩ (fun i σ2 H2 _ ⟨Γ2, M2, c2, sl2, st2, _⟩ => by rw [at_.is.K]; exact (st2.to.rdl h1).sq) ?_ ?_⟩
    · rintro i y σ2 H2 hi ⟨Γ2, M2, c2, sl2, st2, inv⟩
      obtain ⟨d, hd, rd⟩ := h2.getV hi
      rw [List.getElem?_map] at hd
      cases ex : xs[i]? with
      | none => rw [ex] at hd; cases hd
      | some z =>
        rw [ex] at hd
        have ed : f z = d := Option.some.inj hd
        subst ed
        obtain ⟨sp, tk⟩ := split_at ex
        refine (step _ z _ Γ2 M2 sp inv).run X S σ2 H2 (at_.slot c2 sl2 (s1.trans st2)) _ (rd.to st2.to) _ fun σ3 H3 Γ3 M3 c3 sl3 st3 q => q.run X S σ3 H3 (at_.slot c3 sl3 ((s1.trans st2).trans st3)) _ ⟨?_, ?_, ?_, ?_⟩
        · intro σ4 H4 Γ4 M4 c4 sl4 st4 q4
          exact ⟨Γ4, M4, c4, sl4, (st2.trans st3).trans st4, by rw [tk]; exact q4⟩
        · intro v4 H4 d4 M4 c4 st4 r4 q4
          exact l.rt v4 H4 d4 M4 c4 (((s1.trans st2).trans st3).trans st4) r4 q4
        · intro σ4 H4 Γ4 M4 c4 sl4 st4 q4
          exact l.nx σ4 H4 Γ4 M4 c4 sl4 (((s1.trans st2).trans st3).trans st4) q4
        · intro σ4 H4 Γ4 M4 c4 sl4 st4 q4
          exact ⟨Γ4, M4, c4, sl4, (st2.trans st3).trans st4, by rw [tk]; exact q4⟩
    · rintro σ2 H2 ⟨Γ2, M2, c2, sl2, st2, inv⟩
      rw [hl, List.take_length] at inv
      exact l.nx σ2 H2 Γ2 M2 c2 sl2 (s1.trans st2) (fin Γ2 M2 inv)
theorem ws_forT {α : Type} (xs : List α) (f : α → D) (Inv : List α → Gam → Cells → Prop)
    (h : WE c e Γ M fun d M1 => d = .tup (xs.map f) ∧ Inv [] Γ M1 ∧
      (∀ pre y post Γ2 M2, xs = pre ++ y :: post → Inv pre Γ2 M2 → WG c tg (f y) Γ2 M2 fun Γ3 M3 => WSs c body { nx := Inv (pre ++ [y]), ct := Inv (pre ++ [y]), bk := E.nx, rt := E.rt } Γ3 M3) ∧ ∀ Γ2 M2, Inv xs Γ2 M2 → E.nx Γ2 M2)
    (hs : ∀ env x, foldedSetIterable e env x = pure x := by intro _ _; rfl) : WS c (.For tg e body [] pos) E Γ M := .mk fun X S σ H at_ Ds l => by
  refine PS.to (ps_for at_.is.po at_.is.calm (pi_tup wE.pe) wG.pg wSs.pss (hs _)) (h.run X S σ H at_ _ fun v1 H1 d1 M1 c1 s1 r1 ⟨e1, inv0, step, fin⟩ => ?_)
  subst e1
  cases r1 with
  | tup h1 h2 =>
    rename_i a vs
    have hl : vs.length = xs.length := by rw [h2.length, List.length_map]
    refine ⟨_, rfl, ⟨_, by rw [at_.is.K]; exact h1.sq⟩, for_tup (xs := vs) (fun i σ2 H2 => ∃ Γ2 M2, Core c.K S M2 H2 ∧ Slots c.K (av S M2) H2 Γ2 σ2 ∧ Step M1 M2 H1 H2 ∧ Inv (xs.take i) Γ2 M2)
      ⟨Γ, M1, c1, at_.slots.to s1.to, .refl, inv0⟩ (fun i σ2 H2 _ ⟨Γ2, M2, c2, sl2, st2, _⟩ => by rw [at_.is.K]; exact (st2.to.rdt h1).sq) ?_ ?_⟩
    · rintro i y σ2 H2 hi ⟨Γ2, M2, c2, sl2, st2, inv⟩
      obtain ⟨d, hd, rd⟩ := h2.getV hi
      rw [List.getElem?_map] at hd
      cases ex : xs[i]? with
      | none => rw [ex] at hd; cases hd
      | some z =>
        rw [ex] at hd
        have ed : f z = d := Option.some.inj hd
        subst ed
        obtain ⟨sp, tk⟩ := split_at ex
        refine (step _ z _ Γ2 M2 sp inv).run X S σ2 H2 (at_.slot c2 sl2 (s1.trans st2)) _ (rd.to st2.to) _ fun σ3 H3 Γ3 M3 c3 sl3 st3 q => q.run X S σ3 H3 (at_.slot c3 sl3 ((s1.trans st2).trans st3)) _ ⟨?_, ?_, ?_, ?_⟩
        · intro σ4 H4 Γ4 M4 c4 sl4 st4 q4
          exact ⟨Γ4, M4, c4, sl4, (st2.trans st3).trans st4, by rw [tk]; exact q4⟩
        · intro v4 H4 d4 M4 c4 st4 r4 q4
          exact l.rt v4 H4 d4 M4 c4 (((s1.trans st2).trans st3).trans st4) r4 q4
        · intro σ4 H4 Γ4 M4 c4 sl4 st4 q4
          exact l.nx σ4 H4 Γ4 M4 c4 sl4 (((s1.trans st2).trans st3).trans st4) q4
        · intro σ4 H4 Γ4 M4 c4 sl4 st4 q4
          exact ⟨Γ4, M4, c4, sl4, (st2.trans st3).trans st4, by rw [tk]; exact q4⟩
    · rintro σ2 H2 ⟨Γ2, M2, c2, sl2, st2, inv⟩
      rw [hl, List.take_length] at inv
      exact l.nx σ2 H2 Γ2 M2 c2 sl2 (s1.trans st2) (fin Γ2 M2 inv)
/-- for over a range of whole numbers -/
theorem ws_forR {p : Pos} {i : Nat} {px : Pos} {y : Str} (hg : GlC c.sc "range") (hm : c.mg "range" = none) (hN : c.N[i]? = some y) (hl : LocC c.sc y) (Inv : Nat → Gam → Cells → Prop)
    (h : WE c a Γ M fun d M1 => ∃ n : Int, d = .int n ∧ -(2 ^ 62) ≤ n ∧ n < 2 ^ 62 ∧ Inv 0 Γ M1 ∧ (∀ (k : Nat) Γ2 M2, (k : Int) < n → Inv k Γ2 M2 → WSs c body { nx := Inv (k + 1), ct := Inv (k + 1), bk := E.nx, rt := E.rt } (Γ2.set i (some (.int k))) M2) ∧ ∀ Γ2 M2, Inv n.toNat Γ2 M2 → E.nx Γ2 M2)
    (hst : ∀ env, starEach [a] env = (false, eval a env) :: starEach [] env := by intro _; rfl) (hs : ∀ env x, foldedSetIterable (.Call (.Name "range" p) [a] [] pos') env x = pure x := by intro _ _; rfl) :
    WS c (.For (.Name y px) (.Call (.Name "range" p) [a] [] pos') body [] pos) E Γ M := .mk fun X S σ H at_ Ds l => by
  refine PS.to (ps_for at_.is.po at_.is.calm (pi_range1 (at_.is.gl hg) (at_.is.mgN hm) (pa_cons wE.pe pa_nil (hst _)) (by rw [hst]; rfl)) (pg_name at_.is.nd (at_.is.nm hN) (at_.is.loc hl) (at_.is.st hl)) wSs.pss (hs _)) (h.run X S σ H at_ _ fun v1 H1 d1 M1 c1 s1 r1 ⟨n, e1, b1, b2, inv0, step, fin⟩ => ?_)
  subst e1
  cases r1
  refine ⟨n, rfl, b1, b2, for_range (lo := 0) (n := n.toNat) (fun i σ2 H2 => ∃ Γ2 M2, Core c.K S M2 H2 ∧ Slots c.K (av S M2) H2 Γ2 σ2 ∧ Step M1 M2 H1 H2 ∧ Inv i Γ2 M2) ⟨Γ, M1, c1, at_.slots.to s1.to, .refl, inv0⟩ ?_ ?_⟩
  · rintro k σ2 H2 hk ⟨Γ2, M2, c2, sl2, st2, inv⟩
    rw [Int.zero_add]
    refine (step k Γ2 M2 (by omega) inv).run X S _ H2 (at_.slot c2 (sl2.set .int) (s1.trans st2)) _ ⟨?_, ?_, ?_, ?_⟩
    · intro σ4 H4 Γ4 M4 c4 sl4 st4 q4
      exact ⟨Γ4, M4, c4, sl4, st2.trans st4, q4⟩
    · intro v4 H4 d4 M4 c4 st4 r4 q4
      exact l.rt v4 H4 d4 M4 c4 ((s1.trans st2).trans st4) r4 q4
    · intro σ4 H4 Γ4 M4 c4 sl4 st4 q4
      exact l.nx σ4 H4 Γ4 M4 c4 sl4 ((s1.trans st2).trans st4) q4
    · intro σ4 H4 Γ4 M4 c4 sl4 st4 q4
      exact ⟨Γ4, M4, c4, sl4, st2.trans st4, q4⟩
  · rintro σ2 H2 ⟨Γ2, M2, c2, sl2, st2, inv⟩
    exact l.nx σ2 H2 Γ2 M2 c2 sl2 (s1.trans st2) (fin Γ2 M2 inv)
/-- from lo up to below hi -/
theorem ws_forR2 {p : Pos} {i : Nat} {px : Pos} {y : Str} (hg : GlC c.sc "range") (hm : c.mg "range" = none) (hN : c.N[i]? = some y) (hl : LocC c.sc y) (Inv : Nat → Gam → Cells → Prop)
    (h : WE c a Γ M fun d M1 => WE c b Γ M1 fun d2 M1 => ∃ lo n : Int, d = .int lo ∧ d2 = .int n ∧ (-(2 ^ 62) ≤ lo ∧ lo < 2 ^ 62 ∧ -(2 ^ 62) ≤ n ∧ n < 2 ^ 62) ∧ Inv 0 Γ M1 ∧ (∀ (k : Nat) Γ2 M2, lo + (k : Int) < n → Inv k Γ2 M2 → WSs c body { nx := Inv (k + 1), ct := Inv (k + 1), bk := E.nx, rt := E.rt } (Γ2.set i (some (.int (lo + k)))) M2) ∧ ∀ Γ2 M2, Inv (n - lo).toNat Γ2 M2 → E.nx Γ2 M2)
    (hst : ∀ env, starEach [a, b] env = (false, eval a env) :: starEach [b] env := by intro _; rfl) (hst2 : ∀ env, starEach [b] env = (false, eval b env) :: starEach [] env := by intro _; rfl) (hs : ∀ env x, foldedSetIterable (.Call (.Name "range" p) [a, b] [] pos') env x = pure x := by intro _ _; rfl) :
    WS c (.For (.Name y px) (.Call (.Name "range" p) [a, b] [] pos') body [] pos) E Γ M := .mk fun X S σ H at_ Ds l => by
  refine PS.to (ps_for at_.is.po at_.is.calm (pi_range2 (at_.is.gl hg) (at_.is.mgN hm) (pa_cons wE.pe (pa_cons wE.pe pa_nil (hst2 _)) (hst _)) (by rw [hst, hst2]; rfl) (by rw [hst2]; rfl)) (pg_name at_.is.nd (at_.is.nm hN) (at_.is.loc hl) (at_.is.st hl)) wSs.pss (hs _)) (two h at_ fun v1 v2 H1 d1 d2 M1 c1 s1 r1 r2 ⟨lo, n, e1, e2, b1, inv0, step, fin⟩ => ?_)
  subst e1 e2
  cases r1; cases r2
  refine ⟨lo, n, rfl, b1, for_range (lo := lo) (n := (n - lo).toNat) (fun i σ2 H2 => ∃ Γ2 M2, Core c.K S M2 H2 ∧ Slots c.K (av S M2) H2 Γ2 σ2 ∧ Step M1 M2 H1 H2 ∧ Inv i Γ2 M2) ⟨Γ, M1, c1, at_.slots.to s1.to, .refl, inv0⟩ ?_ ?_⟩
  · rintro k σ2 H2 hk ⟨Γ2, M2, c2, sl2, st2, inv⟩
    refine (step k Γ2 M2 (by omega) inv).run X S _ H2 (at_.slot c2 (sl2.set .int) (s1.trans st2)) _ ⟨?_, ?_, ?_, ?_⟩
    · intro σ4 H4 Γ4 M4 c4 sl4 st4 q4
      exact ⟨Γ4, M4, c4, sl4, st2.trans st4, q4⟩
    · intro v4 H4 d4 M4 c4 st4 r4 q4
      exact l.rt v4 H4 d4 M4 c4 ((s1.trans st2).trans st4) r4 q4
    · intro σ4 H4 Γ4 M4 c4 sl4 st4 q4
      exact l.nx σ4 H4 Γ4 M4 c4 sl4 ((s1.trans st2).trans st4) q4
    · intro σ4 H4 Γ4 M4 c4 sl4 st4 q4
      exact ⟨Γ4, M4, c4, sl4, st2.trans st4, q4⟩
  · rintro σ2 H2 ⟨Γ2, M2, c2, sl2, st2, inv⟩
    exact l.nx σ2 H2 Γ2 M2 c2 sl2 (s1.trans st2) (fin Γ2 M2 inv)
end

/-! ### defs -/
/-- what a def does, in data: arguments, cells, what is wanted of its value and the cells behind, what of what it raises -/
abbrev PF := List D → Cells → (D → Cells → Prop) → (Addr → D → Cells → Prop) → Prop
def liftF (K : PySem.W.Frag) (pf : PF) : Sp := fun vs H Q E => ∃ (S : AS) (M : Cells) (ds : List D), Core K S M H ∧ Reps K (av S M) H vs ds ∧
  pf ds M (fun d M' => ∀ v H', Core K S M' H' → Step M M' H H' → Rep K (av S M') H' v d → Q v H')
    (fun C d M' => ∀ dd v H', Core K S M' H' → Step M M' H H' → H' dd = some (.xd [(("what" : Str), v)]) → Rep K (av S M') H' v d → E (.ref C) (some dd) H')
structure Def (P : Program) (w : World) (K : PySem.W.Frag) (mg : Str → Option Value) (base : Heap) (x : Str) (f : Addr) (fd : FuncData) (ps : List Str) (k : Nat) (pf : PF) : Prop where
  mgx : mg x = some (.ref f)
  kp : PySem.W.keepIn K (.ref f) = true
  binds : Binds K fd ps []
  ok : FnOk P w K mg base (L2.CX P w) k f fd ps (liftF K pf)
section
variable {P : Program} {w : World} {K : PySem.W.Frag} {mg : Str → Option Value} {base : Heap}
theorem Def.mono {x : Str} {f : Addr} {fd : FuncData} {ps : List Str} {k k' : Nat} {pf : PF} (F : Def P w K mg base x f fd ps k pf) (h : k ≤ k') : Def P w K mg base x f fd ps k' pf := ⟨F.mgx, F.kp, F.binds, F.ok.mono h⟩
/-- a def's body, read -/
theorem fn_mk {x qual : Str} {st : Stmt} {f : Addr} {fd : FuncData} {N ps : List Str} {k : Nat} {pf : PF} (F : Fun K x qual st f fd) (Sc : FnScope N ps (defScope st))
    (len : ∀ ds M R Z, pf ds M R Z → ds.length = ps.length)
    (body : ∀ ds M R Z, pf ds M R Z → WSs ⟨P, w, K, mg, base, N, defScope st, k, fun C d _ M' => Z C d M'⟩ (defBody st) { nx := fun _ M' => R .non M', rt := R } (ds.map some ++ List.replicate (N.length - ds.length) none) M) :
    FnOk P w K mg base (L2.CX P w) (k + 1) f fd ps (liftF K pf) := by
  refine F.okX Sc (fun vs H Q E h => ?_) (fun cdv A outer s H vs Q E hr h => ?_)
  · obtain ⟨S, M, ds, c1, r1, h⟩ := h
    rw [r1.length]
    exact len _ _ _ _ h
  · obtain ⟨S, M, ds, c1, r1, h⟩ := h
    refine ⟨_, wSs.pss, ?_⟩
    refine (body ds M _ _ h).run _ S _ H ⟨⟨rfl, rfl, rfl, rfl, rfl, rfl, rfl, hr, rfl, Sc.nd, fun _ _ => rfl, ?po⟩, c1, ?sl, ?ld⟩ _ ⟨fun σ' H' Γ' M' c' sl' st' q => q .non H' c' st' .non, fun v H' d M' c' st' r' q => q v H' c' st' r', fun _ _ _ _ _ _ _ q => q.elim, fun _ _ _ _ _ _ _ q => q.elim⟩
    case po => exact passes_of rfl
    case sl =>
      have hl := r1.length
      refine ⟨by simp [L2.start, hl], fun i d hd => ?_⟩
      by_cases hi : i < ds.length
      · rw [List.getElem?_append_left (by simpa using hi), List.getElem?_map] at hd
        cases e : ds[i]? with
        | none => rw [e] at hd; cases hd
        | some d' =>
          rw [e] at hd
          have := Option.some.inj (Option.some.inj hd)
          subst this
          obtain ⟨v, hv, r⟩ := r1.get e
          refine ⟨v, ?_, r⟩
          unfold L2.start
          rw [List.getElem?_append_left (by simpa [hl] using hi), List.getElem?_map, hv]
          rfl
      · rw [List.getElem?_append_right (by simpa using Nat.le_of_not_lt hi)] at hd
        have := List.mem_of_getElem? hd
        have := List.eq_of_mem_replicate this
        cases this
    case ld =>
      refine ⟨fun cls d _ H => E cls d H, takes_of rfl rfl rfl rfl, fun C dd v d σ' H' Γ' M' c' sl' st' hd r z => z dd v H' c' st' hd r⟩
end
section
variable {K : PySem.W.Frag} {S : AS} {kept lent M2 : Cells} {H H' : Hp}
theorem av_app {b : Addr} : av (av S kept) lent b ↔ av S (kept ++ lent) b := by
  unfold av dom
  rw [List.map_append, List.mem_append]
  constructor
  · rintro ((h | h) | h)
    · exact .inl h
    · exact .inr (.inl h)
    · exact .inr (.inr h)
  · rintro (h | h | h)
    · exact .inl (.inl h)
    · exact .inl (.inr h)
    · exact .inr h
theorem To.of_iff {A A' : AS} (h : ∀ b, A' b → A b) : To A A' H H := ⟨fun _ _ _ e => e, fun b z => .inl (h b z)⟩
theorem Core.lend (cr : Core K S (kept ++ lent) H) : Core K (av S kept) lent H := by
  have nd : ((dom kept) ++ (dom lent)).Nodup := by
    have := cr.nod
    unfold dom at this ⊢
    rw [List.map_append] at this
    exact this
  obtain ⟨n1, n2, n3⟩ := List.nodup_append.mp nd
  refine ⟨fun b z => ?_, n2, fun a ha z => ?_, fun p hp => CellAt.to (To.of_iff fun b z => av_app.mp z) (fun _ e => e) (cr.cells p (List.mem_append_right _ hp))⟩
  · rcases z with z | z
    · exact cr.known b z
    · obtain ⟨q, hq, e⟩ := List.mem_map.mp z
      have := (cr.cells q (List.mem_append_left _ hq)).ne
      rw [e] at this
      exact this
  · rcases z with z | z
    · refine cr.dis a ?_ z
      unfold dom
      rw [List.map_append]
      exact List.mem_append_right _ ha
    · exact n3 a z a ha rfl
theorem Core.back (cr : Core K S (kept ++ lent) H) (c2 : Core K (av S kept) M2 H') (st : PL.Step lent M2 H H') : Core K S (kept ++ M2) H' ∧ PL.Step (kept ++ lent) (kept ++ M2) H H' := by
  have nd : ((dom kept) ++ (dom lent)).Nodup := by
    have := cr.nod
    unfold dom at this ⊢
    rw [List.map_append] at this
    exact this
  obtain ⟨n1, n2, n3⟩ := List.nodup_append.mp nd
  have da : ∀ A B : Cells, dom (A ++ B) = dom A ++ dom B := fun A B => by unfold dom; rw [List.map_append]
  have st' : PL.Step (kept ++ lent) (kept ++ M2) H H' := by
    refine ⟨fun b o n h => st.keep b o (fun z => n (by rw [da]; exact List.mem_append_right _ z)) h, st.grow, fun b hb => ?_⟩
    rw [da] at hb ⊢
    rcases List.mem_append.mp hb with z | z
    · exact .inl (List.mem_append_left _ z)
    · rcases st.fresh b z with q | q
      · exact .inl (List.mem_append_right _ q)
      · exact .inr q
  refine ⟨⟨fun b z => st.grow b (cr.known b z), ?_, fun a ha z => ?_, fun p hp => ?_⟩, st'⟩
  · rw [da]
    refine List.nodup_append.mpr ⟨n1, c2.nod, fun a h1 b h2 e => ?_⟩
    subst e
    exact c2.dis a h2 (.inr h1)
  · rw [da] at ha
    rcases List.mem_append.mp ha with q | q
    · exact cr.dis a (by rw [da]; exact List.mem_append_left _ q) z
    · exact c2.dis a q (.inl z)
  · rcases List.mem_append.mp hp with q | q
    · refine CellAt.to st'.to (fun o e => st.keep _ o (fun z => ?_) e) (cr.cells p (List.mem_append_left _ q))
      exact n3 p.1 (List.mem_map.mpr ⟨p, q, rfl⟩) p.1 z rfl
    · exact CellAt.to (To.of_iff fun b z => av_app.mpr z) (fun _ e => e) (c2.cells p q)
end
section
variable {c : Ctx} {X : Cx} {S : AS} {Γ Γ' : Gam} {M M' : Cells} {σ σ' : L2.St} {H H' : Hp} {a b e tg : Expr} {es tgs : List Expr} {pos pos' : Pos} {Q : D → Cells → Prop} {R : Bool → Cells → Prop} {x : Str} {E : PEnds}
/-- what a callee wants, from what the caller has -/
def Callee (c : Ctx) (pf : PF) (Γ : Gam) (ds : List D) (M : Cells) (Q : D → Cells → Prop) : Prop :=
  ∃ kept lent, M = kept ++ lent ∧ ∀ (R : D → Cells → Prop) (Z : Addr → D → Cells → Prop), (∀ d M2, Q d (kept ++ M2) → R d M2) → (∀ C d M2, c.Z C d Γ (kept ++ M2) → Z C d M2) → pf ds lent R Z
theorem Callee.lift {pf : PF} {ds : List D} {vs : List V} (h : Callee c pf Γ ds M Q) (at_ : At c X S Γ M σ H) (r : Reps c.K (av S M) H vs ds) {W : WX}
    (hW : ∀ C dd v d σ' H' Γ' M', Core c.K S M' H' → Slots c.K (av S M') H' Γ' σ' → Step M M' H H' → H' dd = some (.xd [(("what" : Str), v)]) → Rep c.K (av S M') H' v d → c.Z C d Γ' M' → W (.ref C) (some dd) σ' H')
    {Q' : VK} (hq : ∀ v H' d M', Core c.K S M' H' → Step M M' H H' → Rep c.K (av S M') H' v d → Q d M' → Q' v H') : liftF c.K pf vs H Q' (fun cls d H' => W cls d σ H') := by
  obtain ⟨kept, lent, eM, q⟩ := h
  subst eM
  refine ⟨av S kept, lent, ds, at_.core.lend, r.to (To.of_iff fun b z => av_app.mp z), q _ _ (fun d M2 hd v H2 c2 st r2 => ?_) (fun C d M2 hz dd v H2 c2 st hd r2 => ?_)⟩
  · obtain ⟨c3, st3⟩ := at_.core.back c2 st
    exact hq v H2 d _ c3 st3 (r2.to (To.of_iff fun b z => av_app.mpr z)) hd
  · obtain ⟨c3, st3⟩ := at_.core.back c2 st
    exact hW C dd v d σ H2 Γ _ c3 (at_.slots.to st3.to) st3 hd (r2.to (To.of_iff fun b z => av_app.mpr z)) hz
/-- f(e, ..) -/
theorem we_call {p : Pos} {f : Addr} {fd : FuncData} {ps : List Str} {k : Nat} {pf : PF} (F : Def c.P c.w c.K c.mg c.base x f fd ps k pf) (hk : k ≤ c.k) (hg : GlC c.sc x)
    (h : WA c (e :: es) Γ M fun ds M1 => Callee c pf Γ ds M1 Q)
    (hdb : (x == ("__debug__" : Str)) = false := by decide) (he : ∀ env, starEach (e :: es) env = (false, eval e env) :: starEach es env := by intro _; rfl) (hpl : ∀ env, (backTo pos (starEach es env)).any (·.1) = false := by intro _; rfl) :
    WE c (.Call (.Name x p) (e :: es) [] pos) Γ M Q := .mk fun X S σ H at_ Q' hq => by
  obtain ⟨W, tk, hW⟩ := at_.land
  have eP := at_.is.prog; have ew := at_.is.w; have eK := at_.is.K; have emg := at_.is.mg; have eb := at_.is.base
  refine PE.to (pe_callS (CX := L2.CX X.prog X.w) (fd := fd) (ps := ps) (k := k) (sp := liftF c.K pf) (E := L2.WE W) (f := f) (by rw [eP, ew, eK, emg, eb]; exact F.ok) (at_.is.room.mono hk) (at_.is.gl hg) (at_.is.mgN F.mgx) (by rw [eK]; exact F.kp) (by rw [eK]; exact F.binds) (fun σ => passAt tk σ) wA.pa hdb (he _) (hpl _)) ?_
  refine h.run X S σ H at_ _ fun vs H1 ds M1 c1 s1 r1 q => ?_
  exact q.lift (at_.step c1 s1) r1 (fun C dd v d σ' H' Γ' M' c2 sl2 st2 => hW C dd v d σ' H' Γ' M' c2 sl2 (s1.trans st2)) fun v H' d M' c2 st2 => hq v H' d M' c2 (s1.trans st2)
end

/-! ### keywords -/
def wK (X : Cx) (kws : List Keyword) : TA := fun σ H Q => ∀ pos pins s, Inv X pins σ H s → wpAny (model X.prog X.w) X.A (evalAll ((backToKw pos (keywordEach kws X.env)).map (·.2))) (AP X pins σ Q) X.xe s
theorem wK.pk {X : Cx} {kws : List Keyword} : PK X kws (wK X kws) := ⟨fun pos pins s σ H Q I h => h pos pins s I⟩
theorem PK.to {X : Cx} {kws : List Keyword} {t : TA} {σ H Q} (h : PK X kws t) (q : t σ H Q) : wK X kws σ H Q := fun pos pins s I => h.run pos pins s σ H Q I q
structure WK (c : Ctx) (kws : List Keyword) (Γ : Gam) (M : Cells) (Q : List D → Cells → Prop) : Prop where
  run : ∀ X S σ H, At c X S Γ M σ H → ∀ Q' : List V → Hp → Prop, (∀ vs H' ds M', Core c.K S M' H' → Step M M' H H' → Reps c.K (av S M') H' vs ds → Q ds M' → Q' vs H') → wK X kws σ H Q'
def pick {α : Type} (is : List Nat) (l : List α) : List α := is.filterMap fun i => l[i]?
theorem Reps.pick {K : PySem.W.Frag} {A : AS} {H : Hp} {vs : List V} {ds : List D} (r : Reps K A H vs ds) : ∀ is : List Nat, Reps K A H (PL.pick is vs) (PL.pick is ds)
  | [] => .nil
  | i :: is => by
    unfold PL.pick
    cases e : ds[i]? with
    | none =>
      have e2 : vs[i]? = none := by
        rw [List.getElem?_eq_none_iff] at e ⊢
        rw [r.length]; exact e
      rw [List.filterMap_cons, List.filterMap_cons, e, e2]
      exact r.pick is
    | some d =>
      obtain ⟨v, hv, rv⟩ := r.get e
      rw [List.filterMap_cons, List.filterMap_cons, e, hv]
      exact .cons rv (r.pick is)
section
variable {c : Ctx} {X : Cx} {S : AS} {Γ Γ' : Gam} {M M' : Cells} {σ σ' : L2.St} {H H' : Hp} {a b e tg : Expr} {es tgs : List Expr} {pos pos' kpos : Pos} {Q : D → Cells → Prop} {R : Bool → Cells → Prop} {x : Str} {E : PEnds} {kws : List Keyword} {nm : Option Str}
theorem wk_nil {R : List D → Cells → Prop} (q : R [] M) : WK c [] Γ M R := .mk fun X S σ H at_ Q' hq => PK.to pk_nil (hq _ _ _ _ at_.core .refl .nil q)
theorem wk_cons {R : List D → Cells → Prop} (h : WE c e Γ M fun x M1 => WK c kws Γ M1 fun xs M2 => R (x :: xs) M2) : WK c (⟨nm, e, kpos⟩ :: kws) Γ M R := .mk fun X S σ H at_ Q' hq =>
  PK.to (pk_cons wE.pe wK.pk) (h.run X S σ H at_ _ fun v1 H1 d1 M1 c1 s1 r1 q1 => q1.run X S σ H1 (at_.step c1 s1) _ fun vs H2 ds M2 c2 s2 r2 q2 => hq _ _ _ _ c2 (s1.trans s2) (.cons (r1.to s2.to) r2) q2)
/-- f(k = v, ..), by names alone: is puts the keywords' values in the parameters' order -/
structure KwB (K : PySem.W.Frag) (fd : FuncData) (ps ks : List Str) (is : List Nat) : Prop where
  to : ∀ (s : Shared) (ws : List Value), K.In s.heap → ws.length = ks.length → BindsTo s fd ⟨[], ks.zip ws⟩ (ps.zip (pick is ws))
theorem we_callK0 {p : Pos} {f : Addr} {fd : FuncData} {ps ks : List Str} {is : List Nat} {k : Nat} {pf : PF} (F : Def c.P c.w c.K c.mg c.base x f fd ps k pf) (B : KwB c.K fd ps ks is) (hk : k ≤ c.k) (hg : GlC c.sc x) (hl : kws.length = ks.length)
    (h : WK c kws Γ M fun ds M1 => ds.length = ks.length ∧ Callee c pf Γ (pick is ds) M1 Q)
    (hall : ∀ env, (backToKw pos (keywordEach kws env)).all (·.1.isSome) = true := by intro _; rfl) (hks : ∀ env, (backToKw pos (keywordEach kws env)).filterMap (·.1) = ks := by intro _; rfl)
    (hpl : ∀ env, ((backTo pos (starEach [] env)).any (·.1) || (backToKw pos (keywordEach kws env)).any (·.1.isNone)) = false := by intro _; rfl)
    (hdb : (x == ("__debug__" : Str)) = false := by decide) :
    WE c (.Call (.Name x p) [] kws pos) Γ M Q := .mk fun X S σ H at_ Q' hq => by
  obtain ⟨W, tk, hW⟩ := at_.land
  have eP := at_.is.prog; have ew := at_.is.w; have eK := at_.is.K; have emg := at_.is.mg; have eb := at_.is.base
  have G : FnOk X.prog X.w X.K X.mg X.base (L2.CX X.prog X.w) k f fd ps (liftF c.K pf) := by rw [eP, ew, eK, emg, eb]; exact F.ok
  intro pins s I
  refine wpAny_Call_Name_kw (ld_glob I (at_.is.gl hg) (at_.is.mgN F.mgx) ?_ hdb)
  refine PySem.W.callWith_KW0 (h₀ := X.base) I.ok.mod.kin (by rw [eK]; exact F.kp) (hall _) ?_ (hpl _)
  refine thn ((h.run X S σ H at_ (fun vs H1 => vs.length = ks.length ∧ liftF c.K pf (pick is vs) H1 Q' (fun cls d H' => W cls d σ H')) fun vs H1 ds M1 c1 s1 r1 ⟨l1, q⟩ => ⟨by rw [r1.length, l1], ?_⟩) pos pins s I) fun ws s2 ⟨zs, H2, I2, rz, l1, q2⟩ => ⟨I2.kIn, ?_⟩
  · exact q.lift (at_.step c1 s1) (r1.pick is) (fun C dd v d σ' H' Γ' M' c2 sl2 st2 => hW C dd v d σ' H' Γ' M' c2 sl2 (s1.trans st2)) fun v H' d M' c2 st2 => hq v H' d M' c2 (s1.trans st2)
  · rw [hks]
    have rp : Vals (pick is zs) (pick is ws) := by
      have : ∀ is : List Nat, Vals (pick is zs) (pick is ws) := by
        intro is
        induction is with
        | nil => exact .nil
        | cons i is ih =>
          unfold pick at ih ⊢
          cases e : zs[i]? with
          | none =>
            have e2 := rz.none_of e
            rw [List.filterMap_cons, List.filterMap_cons, e, e2]
            exact ih
          | some v =>
            obtain ⟨u, hu, ru⟩ := rz.get e
            rw [List.filterMap_cons, List.filterMap_cons, e, hu]
            exact .cons ru ih
      exact this is
    refine wpAny_call (codeAny_mono (G.run X.A X.stack s2 H2 ⟨[], ks.zip ws⟩ (pick is ws) (pick is zs) Q' (fun cls d H' => W cls d σ H') (at_.is.room.mono hk) I2.env0 (B.to s2 ws (by rw [← eK]; exact I2.kIn) (by rw [← rz.length, l1])) rp q2) fun r s' hq' => ?_)
    cases r with
    | error e => exact passAt tk σ _ _ _ _ _ I2 hq'
    | ok fl =>
      cases fl with
      | ret u => exact I2.after hq'
      | next => exact False.elim hq'
      | brk => exact False.elim hq'
      | cont => exact False.elim hq'
theorem we_powK {i j v : Int} {ni nj : Nat} {p1 p2 : Pos} (h1 : CPow i j) (hv : i ^ j.toNat = v) (q : Q (.int v) M) : WE c (.BinOp (.Constant (.int i) ni p1) .Pow (.Constant (.int j) nj p2) pos) Γ M Q :=
  we_pow (we_int (we_int ⟨_, _, rfl, rfl, h1, by rw [hv]; exact q⟩))
end
end PL
namespace PL
open PySem PySem.Spec PyProof.Rows L2
/-! ### sizes -/
/-- no more than three hundred figures -/
def Sm (i : Int) : Prop := -1000000000000000000000000000000000000000000000000000000000000000000000000000000000000000000000000000000000000000000000000000000000000000000000000000000000000000000000000000000000000000000000000000000000000000000000000000000000000000000000000000000000000000000000000000000000000000000000000000000000000 < i ∧ i < 1000000000000000000000000000000000000000000000000000000000000000000000000000000000000000000000000000000000000000000000000000000000000000000000000000000000000000000000000000000000000000000000000000000000000000000000000000000000000000000000000000000000000000000000000000000000000000000000000000000000000
theorem Sm.nat {i : Int} (h : Sm i) : i.natAbs < 2 ^ 1000 := by
  obtain ⟨h1, h2⟩ := h
  have e : 1000000000000000000000000000000000000000000000000000000000000000000000000000000000000000000000000000000000000000000000000000000000000000000000000000000000000000000000000000000000000000000000000000000000000000000000000000000000000000000000000000000000000000000000000000000000000000000000000000000000000 ≤ 2 ^ 1000 := by decide +kernel
  omega
theorem cmulB {i j : Int} (h1 : Sm i) (h2 : Sm j) : CMulW i j := wide_mul h1.nat h2.nat (by decide) (by decide) (by decide)
theorem cdivB {i j : Int} (h1 : 0 < j) (h2 : Sm j) : CDivW i j := wide_div h1 h2.nat (by decide) (by decide)
theorem mulB {a b A B : Int} (ha : -A ≤ a ∧ a ≤ A) (hb : -B ≤ b ∧ b ≤ B) : -(A * B) ≤ a * b ∧ a * b ≤ A * B := by
  have h1 : a.natAbs ≤ A.natAbs := by omega
  have h2 : b.natAbs ≤ B.natAbs := by omega
  have h3 : a.natAbs * b.natAbs ≤ A.natAbs * B.natAbs := Nat.mul_le_mul h1 h2
  rw [← Int.natAbs_mul, ← Int.natAbs_mul] at h3
  have h4 : 0 ≤ A * B := Int.mul_nonneg (by omega) (by omega)
  omega
theorem len_app {α : Type} (l : List α) (x : α) : (l ++ [x]).length = l.length + 1 := by simp
/-- small lists -/
theorem lenB {n : Nat} (h : n < 10000000) : n < sizeLine := Nat.lt_trans h (by decide)
theorem lenB' {n : Nat} (h : n < 10000000) : n ≤ sizeLine := Nat.le_of_lt (lenB h)
theorem br_decT {p : Prop} [Decidable p] {A B : Prop} (h : p) (a : A) : Br (decide p) A B := ⟨fun _ => a, fun z => absurd h (of_decide_eq_false z)⟩
theorem br_decF {p : Prop} [Decidable p] {A B : Prop} (h : ¬ p) (b : B) : Br (decide p) A B := ⟨fun z => absurd (of_decide_eq_true z) h, fun _ => b⟩
theorem br_nd {p : Prop} [Decidable p] {A B : Prop} (h1 : ¬ p → A) (h2 : p → B) : Br (!decide p) A B := br_not (br_dec h2 h1)
theorem br_nk {k : Bool} {A B : Prop} (h1 : k = false → A) (h2 : k = true → B) : Br (!k) A B := br_not ⟨h2, h1⟩
theorem br_nkF {k : Bool} {A B : Prop} (h : k = true) (b : B) : Br (!k) A B := by
  subst h
  exact ⟨fun z => (by cases z), fun _ => b⟩
theorem br_kT {k : Bool} {A B : Prop} (h : k = true) (a : A) : Br k A B := by
  subst h
  exact br_t a
theorem br_kF {k : Bool} {A B : Prop} (h : k = false) (b : B) : Br k A B := by
  subst h
  exact br_f b
/-- how keywords alone bind -/
theorem kwb_of {K : PySem.W.Frag} {x qual : Str} {st : Stmt} {f : Addr} {fd : FuncData} {ps ks : List Str} {is : List Nat} (F : Fun K x qual st f fd)
    (h : ∀ (kV doc pm : Value) (an : Option Addr) (cdv ct : Value) (ws : List Value), ws.length = ks.length → bindArgs (PySem.W.fnOf x qual (defArgs st) (defBody st) (defScope st) .none kV doc pm an cdv ct) ⟨[], ks.zip ws⟩ = pure (ps.zip (pick is ws))) : KwB K fd ps ks is := by
  obtain ⟨oc, od, kV, doc, pm, an, cdv, ct, osl, rfl, lk, hcd⟩ := F.ex
  exact ⟨fun s ws _ hl => .of_eq (h kV doc pm an cdv ct ws hl)⟩
section
variable {c : Ctx} {Γ : Gam} {M : Cells} {a b : Expr} {pos : Pos} {Q : D → Cells → Prop}
theorem atI_some {α : Type} {xs : List α} {i : Int} (h : 0 ≤ i ∧ i < xs.length) : ∃ j, ∃ hj : j < xs.length, i = (j : Int) ∧ atI xs i = some xs[j] := by
  obtain ⟨j, rfl⟩ : ∃ j : Nat, i = (j : Int) := ⟨i.toNat, by omega⟩
  refine ⟨j, by omega, rfl, ?_⟩
  exact atI_nat (List.getElem?_eq_getElem (by omega))
/-- an item of a written tuple of ints at some place in bounds, by what is so of each -/
theorem we_ixI (P : Int → Prop) (h : WE c a Γ M fun x M1 => WE c b Γ M1 fun y M2 => ∃ (ns : List Int) (i : Int), x = .tup (ns.map D.int) ∧ y = .int i ∧ (0 ≤ i ∧ i < ns.length) ∧ (∀ v ∈ ns, P v) ∧ ∀ v, P v → Q (.int v) M2) (hs : PlainIx b := by exact fun _ _ => rfl) :
    WE c (.Subscript a b pos) Γ M Q :=
  we_ix (.mk fun X S σ H at_ Q' hq => h.run X S σ H at_ Q' fun v H' d M' c1 s1 r1 q => hq v H' d M' c1 s1 r1 (.mk fun X S σ H at_ Q' hq => q.run X S σ H at_ Q' fun v H' d M' c1 s1 r1 ⟨ns, i, e1, e2, hi, hP, q⟩ => hq v H' d M' c1 s1 r1 (by
    obtain ⟨j, hj, _, e⟩ := atI_some (xs := ns.map D.int) (by rw [List.length_map]; exact hi)
    refine ⟨ns.map D.int, i, .int ns[j], .inl e1, e2, by rw [e]; simp, q _ (hP _ (List.getElem_mem _))⟩))) hs
end
theorem callee0 {c : Ctx} {pf : PF} {Γ : Gam} {ds : List D} {M : Cells} {Q : D → Cells → Prop} (h : ∀ (R : D → Cells → Prop) (Z : Addr → D → Cells → Prop), (∀ d M2, Q d M2 → R d M2) → (∀ C d M2, c.Z C d Γ M2 → Z C d M2) → pf ds M R Z) : Callee c pf Γ ds M Q := ⟨[], M, rfl, h⟩
end PL
namespace My
/-- a fraction, lowest -/
def low (a b : Int) : Int × Int := (a / (Int.gcd a b : Int), b / (Int.gcd a b : Int))
def Below (x y : Int × Int) : Prop := x.1 * y.2 < y.1 * x.2
instance {x y : Int × Int} : Decidable (Below x y) := by unfold Below; exact inferInstance
/-- the greatest fraction not above p/q of those with bottoms up to k -/
structure Lo (p q k : Int) (f : Int × Int) : Prop where
  b1 : 1 ≤ f.2
  bk : f.2 ≤ k
  le : f.1 * q ≤ p * f.2
  mx : ∀ x y : Int, 1 ≤ y → y ≤ k → x * q ≤ p * y → x * f.2 ≤ f.1 * y
structure Up (p q k : Int) (f : Int × Int) : Prop where
  b1 : 1 ≤ f.2
  bk : f.2 ≤ k
  le : p * f.2 ≤ f.1 * q
  mx : ∀ x y : Int, 1 ≤ y → y ≤ k → p * y ≤ x * q → f.1 * y ≤ x * f.2
theorem mul_le_of_pos {a b c : Int} (hc : 0 < c) (h : a * c ≤ b * c) : a ≤ b := Int.le_of_mul_le_mul_right h hc
/-- the other way about -/
theorem up_lo {p q k : Int} {f : Int × Int} : Up p q k f ↔ Lo (-p) q k (-f.1, f.2) := by
  constructor
  · rintro ⟨h1, h2, h3, h4⟩
    refine ⟨h1, h2, ?_, fun x y h5 h6 h7 => ?_⟩
    · show -f.1 * q ≤ -p * f.2
      rw [Int.neg_mul, Int.neg_mul]; omega
    · show x * f.2 ≤ -f.1 * y
      have := h4 (-x) y h5 h6 (by rw [Int.neg_mul] at h7 ⊢; omega)
      rw [Int.neg_mul] at this ⊢; omega
  · rintro ⟨h1, h2, h3, h4⟩
    refine ⟨h1, h2, ?_, fun x y h5 h6 h7 => ?_⟩
    · have : -f.1 * q ≤ -p * f.2 := h3
      rw [Int.neg_mul, Int.neg_mul] at this; omega
    · have : -x * f.2 ≤ -f.1 * y := h4 (-x) y h5 h6 (by rw [Int.neg_mul, Int.neg_mul]; omega)
      rw [Int.neg_mul, Int.neg_mul] at this; omega
/-- one bottom more: c is floor(p (k+1) / q) by k + 1, in any terms -/
theorem Lo.step {p q k d : Int} {f c : Int × Int} (hf : Lo p q k f) (hq : 0 < q) (hk : 1 ≤ k + 1) (hd : ∀ x, x * q ≤ p * (k + 1) ↔ x ≤ d) (c1 : 1 ≤ c.2) (ck : c.2 ≤ k + 1) (hc : c.1 * (k + 1) = d * c.2) :
    Lo p q (k + 1) (if Below f c then c else f) := by
  have hle : c.1 * q ≤ p * c.2 := by
    have h1 : d * q ≤ p * (k + 1) := (hd d).mpr (Int.le_refl _)
    -- c.1 q (k+1) = d c.2 q <= p (k+1) c.2
    refine mul_le_of_pos (c := k + 1) (by omega) ?_
    have h2 := Int.mul_le_mul_of_nonneg_right h1 (show 0 ≤ c.2 by omega)
    have e1 : c.1 * q * (k + 1) = d * q * c.2 := by
      rw [Int.mul_right_comm, hc]
      rw [Int.mul_right_comm]
    have e2 : p * c.2 * (k + 1) = p * (k + 1) * c.2 := Int.mul_right_comm _ _ _
    rw [e1, e2]; exact h2
  split
  · rename_i hb
    have hb : f.1 * c.2 < c.1 * f.2 := hb
    refine ⟨c1, ck, hle, fun x y h5 h6 h7 => ?_⟩
    by_cases hy : y ≤ k
    · have h8 := hf.mx x y h5 hy h7
      -- x f2 <= f1 y ; f1 c2 < c1 f2
      refine mul_le_of_pos (c := f.2) (by have := hf.b1; omega) ?_
      have a1 := Int.mul_le_mul_of_nonneg_right h8 (show 0 ≤ c.2 by omega)
      have a2 := Int.mul_le_mul_of_nonneg_right (Int.le_of_lt hb) (show 0 ≤ y by omega)
      have e1 : x * c.2 * f.2 = x * f.2 * c.2 := Int.mul_right_comm _ _ _
      have e2 : f.1 * y * c.2 = f.1 * c.2 * y := Int.mul_right_comm _ _ _
      have e3 : c.1 * y * f.2 = c.1 * f.2 * y := Int.mul_right_comm _ _ _
      rw [e1, e3]; rw [e2] at a1
      exact Int.le_trans a1 a2
    · have ey : y = k + 1 := by omega
      subst ey
      have h8 := (hd x).mp h7
      have a1 := Int.mul_le_mul_of_nonneg_right h8 (show 0 ≤ c.2 by omega)
      rw [hc]; exact a1
  · rename_i hb
    have hb : c.1 * f.2 ≤ f.1 * c.2 := Int.not_lt.mp hb
    refine ⟨hf.b1, by have := hf.bk; omega, hf.le, fun x y h5 h6 h7 => ?_⟩
    by_cases hy : y ≤ k
    · exact hf.mx x y h5 hy h7
    · have ey : y = k + 1 := by omega
      subst ey
      have h8 := (hd x).mp h7
      -- x f2 (c2) <= d f2 c2 = c1 (k+1) f2 <= f1 c2 (k+1)
      refine mul_le_of_pos (c := c.2) (by omega) ?_
      have a1 := Int.mul_le_mul_of_nonneg_right (Int.mul_le_mul_of_nonneg_right h8 (show 0 ≤ f.2 by have := hf.b1; omega)) (show 0 ≤ c.2 by omega)
      have a2 := Int.mul_le_mul_of_nonneg_right hb (show 0 ≤ k + 1 by omega)
      have e1 : d * f.2 * c.2 = c.1 * f.2 * (k + 1) := by
        rw [Int.mul_right_comm, ← hc, Int.mul_right_comm]
      have e2 : f.1 * (k + 1) * c.2 = f.1 * c.2 * (k + 1) := Int.mul_right_comm _ _ _
      rw [e1] at a1
      rw [e2]
      exact Int.le_trans a1 a2
theorem Lo.first {p q d : Int} {c : Int × Int} (hq : 0 < q) (hd : ∀ x, x * q ≤ p * 1 ↔ x ≤ d) (c1 : c.2 = 1) (hc : c.1 * 1 = d * c.2) : Lo p q 1 c := by
  rw [c1, Int.mul_one, Int.mul_one] at hc
  refine ⟨by omega, by omega, ?_, fun x y h5 h6 h7 => ?_⟩
  · rw [c1, hc]; exact (hd d).mpr (Int.le_refl _)
  · have ey : y = 1 := by omega
    subst ey
    have := (hd x).mp h7
    rw [c1, hc]; omega
/-- at the fraction's own bottom it is met: no greater bottom gives more -/
theorem Lo.all {p q k n : Int} {f : Int × Int} (hq : 1 ≤ q) (hf : Lo p q k f) (hk : k = (if q < n then q else n)) (hn : k ≤ n) : Lo p q n f := by
  refine ⟨hf.b1, by have := hf.bk; omega, hf.le, fun x y h5 h6 h7 => ?_⟩
  by_cases hy : y ≤ k
  · exact hf.mx x y h5 hy h7
  · have ek : k = q := by split at hk <;> omega
    have a1 : p * f.2 ≤ f.1 * q := by
      have := hf.mx p q hq (by omega) (Int.le_refl _)
      exact this
    have e : f.1 * q = p * f.2 := Int.le_antisymm hf.le a1
    refine mul_le_of_pos (c := q) (by omega) ?_
    have a2 := Int.mul_le_mul_of_nonneg_right h7 (show 0 ≤ f.2 by have := hf.b1; omega)
    have e1 : x * f.2 * q = x * q * f.2 := Int.mul_right_comm _ _ _
    have e2 : f.1 * y * q = p * y * f.2 := by
      rw [Int.mul_right_comm, e, Int.mul_right_comm]
    rw [e1, e2]; exact a2
/-- the greatest is one fraction -/
theorem Lo.same {p q n : Int} {f g : Int × Int} (hf : Lo p q n f) (hg : Lo p q n g) : f.1 * g.2 = g.1 * f.2 :=
  Int.le_antisymm (hg.mx f.1 f.2 hf.b1 hf.bk hf.le) (hf.mx g.1 g.2 hg.b1 hg.bk hg.le)
theorem Up.same {p q n : Int} {f g : Int × Int} (hf : Up p q n f) (hg : Up p q n g) : f.1 * g.2 = g.1 * f.2 := by
  have := (up_lo.mp hf).same (up_lo.mp hg)
  have : -f.1 * g.2 = -g.1 * f.2 := this
  rw [Int.neg_mul, Int.neg_mul] at this
  omega
theorem gcd_pos {a b : Int} (h : 0 < b) : 0 < (Int.gcd a b : Int) := by
  have : Int.gcd a b ≠ 0 := fun z => by
    rw [Int.gcd_eq_zero_iff] at z
    omega
  omega
theorem low_val {a b : Int} (h : 0 < b) : (low a b).1 * b = a * (low a b).2 ∧ 0 < (low a b).2 ∧ (low a b).2 ≤ b := by
  have hg := gcd_pos (a := a) h
  obtain ⟨x, hx⟩ : (Int.gcd a b : Int) ∣ a := Int.gcd_dvd_left ..
  obtain ⟨y, hy⟩ : (Int.gcd a b : Int) ∣ b := Int.gcd_dvd_right ..
  have e1 : a / (Int.gcd a b : Int) = x := by
    rw [show a / (Int.gcd a b : Int) = ((Int.gcd a b : Int) * x) / (Int.gcd a b : Int) by rw [← hx]]
    exact Int.mul_ediv_cancel_left _ (by omega)
  have e2 : b / (Int.gcd a b : Int) = y := by
    rw [show b / (Int.gcd a b : Int) = ((Int.gcd a b : Int) * y) / (Int.gcd a b : Int) by rw [← hy]]
    exact Int.mul_ediv_cancel_left _ (by omega)
  unfold low
  rw [e1, e2]
  have hy0 : 0 < y := by
    rcases Int.lt_trichotomy y 0 with q | q | q
    · have := Int.mul_neg_of_pos_of_neg hg q
      omega
    · rw [q, Int.mul_zero] at hy; omega
    · exact q
  refine ⟨?_, hy0, ?_⟩
  · show x * b = a * y
    have : ∀ g : Int, a = g * x → b = g * y → x * b = a * y := fun g h1 h2 => by
      rw [h1, h2, Int.mul_comm x, Int.mul_assoc, Int.mul_assoc, Int.mul_comm y x]
    exact this _ hx hy
  · show y ≤ b
    have := Int.mul_le_mul_of_nonneg_right (show (1 : Int) ≤ (Int.gcd a b : Int) by omega) (show 0 ≤ y by omega)
    rw [Int.one_mul, ← hy] at this
    exact this
theorem dvd_cop {k m n : Int} (h : k ∣ m * n) (hc : Int.gcd k m = 1) : k ∣ n := by
  have h1 : k.natAbs ∣ m.natAbs * n.natAbs := by
    rw [← Int.natAbs_mul]
    exact Int.natAbs_dvd_natAbs.mpr h
  have h2 : Nat.Coprime k.natAbs m.natAbs := hc
  exact Int.natAbs_dvd_natAbs.mp (h2.dvd_of_dvd_mul_left h1)
theorem gcd_mod (m n : Int) : Int.gcd (n % m) m = Int.gcd m n := by
  rw [Int.gcd_comm]
  have := Int.gcd_add_mul_left_right m (n % m) (n / m)
  rw [Int.emod_add_mul_ediv] at this
  exact this.symm
/-- lowest terms are one form -/
theorem low_eq {a b c d : Int} (hb : 0 < b) (hd : 0 < d) (h : a * d = c * b) : low a b = low c d := by
  -- both have coprime parts
  have key : ∀ {a b : Int}, 0 < b → Int.gcd (low a b).1 (low a b).2 = 1 := fun {a b} hb => by
    have hg := gcd_pos (a := a) hb
    show Int.gcd (a / _) (b / _) = 1
    exact Int.gcd_ediv_gcd_ediv_gcd (by omega)
  obtain ⟨v1, p1, l1⟩ := low_val (a := a) hb
  obtain ⟨v2, p2, l2⟩ := low_val (a := c) hd
  have k1 := key (a := a) hb
  have k2 := key (a := c) hd
  generalize low a b = f at *
  generalize low c d = g at *
  obtain ⟨f1, f2⟩ := f
  obtain ⟨g1, g2⟩ := g
  simp only at *
  -- f1 g2 = g1 f2
  have e : f1 * g2 = g1 * f2 := by
    -- f1 b = a f2 ; g1 d = c g2 ; a d = c b
    have h1 : f1 * g2 * (b * d) = g1 * f2 * (b * d) := by
      have x1 : f1 * g2 * (b * d) = (f1 * b) * (g2 * d) := by
        rw [Int.mul_assoc, Int.mul_assoc]
        congr 1
        rw [← Int.mul_assoc, Int.mul_comm g2 b, Int.mul_assoc]
      have x2 : g1 * f2 * (b * d) = (g1 * d) * (f2 * b) := by
        rw [Int.mul_assoc, Int.mul_assoc]
        congr 1
        rw [Int.mul_comm b d, ← Int.mul_assoc, Int.mul_comm f2 d, Int.mul_assoc]
      rw [x1, x2, v1, v2]
      have y1 : a * f2 * (g2 * d) = (a * d) * (f2 * g2) := by
        rw [Int.mul_assoc, Int.mul_assoc]
        congr 1
        rw [← Int.mul_assoc, Int.mul_comm _ d]
      have y2 : c * g2 * (f2 * b) = (c * b) * (f2 * g2) := by
        rw [Int.mul_assoc, Int.mul_assoc]
        congr 1
        rw [Int.mul_comm b, ← Int.mul_assoc, Int.mul_comm g2 f2]
      rw [y1, y2, h]
    exact Int.eq_of_mul_eq_mul_right (show b * d ≠ 0 by
      have := Int.mul_pos hb hd
      omega) h1
  -- f2 | g2 and g2 | f2
  have d1 : f2 ∣ g2 := by
    have : f2 ∣ f1 * g2 := ⟨g1, by rw [e, Int.mul_comm]⟩
    exact dvd_cop this (by rw [Int.gcd_comm]; exact k1)
  have d2 : g2 ∣ f2 := by
    have : g2 ∣ g1 * f2 := ⟨f1, by rw [← e, Int.mul_comm]⟩
    exact dvd_cop this (by rw [Int.gcd_comm]; exact k2)
  have e2 : f2 = g2 := Int.le_antisymm (Int.le_of_dvd p2 d1) (Int.le_of_dvd p1 d2)
  subst e2
  have e1 : f1 = g1 := Int.eq_of_mul_eq_mul_right (by omega) e
  rw [e1]
/-- a fraction by its value -/
theorem cmp {c : Int × Int} {t y p q : Int} (hy : 0 < y) (hc : 0 < c.2) (e : c.1 * y = t * c.2) : (c.1 * q ≤ p * c.2 ↔ t * q ≤ p * y) ∧ (p * c.2 ≤ c.1 * q ↔ p * y ≤ t * q) := by
  have e1 : c.1 * q * y = t * q * c.2 := by rw [Int.mul_right_comm, e, Int.mul_right_comm]
  have e2 : p * c.2 * y = p * y * c.2 := Int.mul_right_comm _ _ _
  refine ⟨⟨fun h => ?_, fun h => ?_⟩, ⟨fun h => ?_, fun h => ?_⟩⟩
  · have := Int.mul_le_mul_of_nonneg_right h (Int.le_of_lt hy)
    rw [e1, e2] at this
    exact mul_le_of_pos hc this
  · have := Int.mul_le_mul_of_nonneg_right h (Int.le_of_lt hc)
    rw [← e1, ← e2] at this
    exact mul_le_of_pos hy this
  · have := Int.mul_le_mul_of_nonneg_right h (Int.le_of_lt hy)
    rw [e1, e2] at this
    exact mul_le_of_pos hc this
  · have := Int.mul_le_mul_of_nonneg_right h (Int.le_of_lt hc)
    rw [← e1, ← e2] at this
    exact mul_le_of_pos hy this
theorem neg_iff {p q k d : Int} (hd : ∀ x, p * k ≤ x * q ↔ d ≤ x) : ∀ x, x * q ≤ -p * k ↔ x ≤ -d := fun x => by
  have := hd (-x)
  rw [Int.neg_mul] at this ⊢
  constructor
  · intro h; have := this.mp (by omega); omega
  · intro h; have := this.mpr (by omega); omega
theorem Up.step {p q k d : Int} {f c : Int × Int} (hf : Up p q k f) (hq : 0 < q) (hk : 1 ≤ k + 1) (hd : ∀ x, p * (k + 1) ≤ x * q ↔ d ≤ x) (c1 : 1 ≤ c.2) (ck : c.2 ≤ k + 1) (hc : c.1 * (k + 1) = d * c.2) :
    Up p q (k + 1) (if Below c f then c else f) := by
  have h := (up_lo.mp hf).step (c := (-c.1, c.2)) hq hk (neg_iff hd) c1 ck (by show -c.1 * (k + 1) = -d * c.2; rw [Int.neg_mul, Int.neg_mul, hc])
  have e : Below (-f.1, f.2) (-c.1, c.2) ↔ Below c f := by
    unfold Below
    simp only
    rw [Int.neg_mul, Int.neg_mul]
    constructor <;> intro h <;> omega
  refine up_lo.mpr ?_
  by_cases hb : Below c f
  · rw [if_pos hb]
    rw [if_pos (e.mpr hb)] at h
    exact h
  · rw [if_neg hb]
    rw [if_neg (fun z => hb (e.mp z))] at h
    exact h
theorem Up.first {p q d : Int} {c : Int × Int} (hq : 0 < q) (hd : ∀ x, p * 1 ≤ x * q ↔ d ≤ x) (c1 : c.2 = 1) (hc : c.1 * 1 = d * c.2) : Up p q 1 c := by
  refine up_lo.mpr (Lo.first hq (neg_iff hd) c1 ?_)
  show -c.1 * 1 = -d * c.2
  rw [Int.neg_mul, Int.neg_mul, hc]
theorem Up.all {p q k n : Int} {f : Int × Int} (hq : 1 ≤ q) (hf : Up p q k f) (hk : k = (if q < n then q else n)) (hn : k ≤ n) : Up p q n f :=
  up_lo.mpr ((up_lo.mp hf).all hq hk hn)
/-- floors -/
theorem floor_iff {a q x : Int} (hq : 0 < q) : x * q ≤ a ↔ x ≤ a / q := (Int.le_ediv_iff_mul_le hq).symm
theorem ceil_iff {a q x : Int} (hq : 0 < q) : a ≤ x * q ↔ 0 - (0 - a) / q ≤ x := by
  have := floor_iff (a := 0 - a) (x := -x) hq
  rw [Int.neg_mul] at this
  constructor
  · intro h; have := this.mp (by omega); omega
  · intro h; have := this.mpr (by omega); omega
theorem divB {a q A : Int} (h : -A ≤ a ∧ a ≤ A) (hq : 1 ≤ q) : -A ≤ a / q ∧ a / q ≤ A := by
  have hA : 0 ≤ A := by omega
  have h1 := Int.mul_le_mul_of_nonneg_left hq hA
  rw [Int.mul_one] at h1
  constructor
  · refine (Int.le_ediv_iff_mul_le (by omega)).mpr ?_
    rw [Int.neg_mul]; omega
  · exact Int.ediv_le_of_le_mul (by omega) (by omega)
/-- a fraction told in lowest terms -/
def Red (f : Int × Int) : Prop := 0 < f.2 ∧ low f.1 f.2 = f
theorem red_low {a b : Int} (hb : 0 < b) : Red (low a b) := by
  obtain ⟨v, p, l⟩ := low_val (a := a) hb
  refine ⟨p, low_eq p hb ?_⟩
  rw [v]
end My
namespace My
open PySem PySem.Spec PyProof.Rows L2 PL
def topS (i : Nat) : Stmt := PySem.Challenge.pw_darkpace_k40_neighbours_told.main.body.getD i (.Pass ⟨0, 0, 0, 0⟩)
local macro_rules | `(tactic| walk_at "s_mul") => `(tactic| exact cmulB (by walk_at "s_sm") (by walk_at "s_sm"))
local macro_rules | `(tactic| walk_at "s_sm") => `(tactic| first | assumption | (unfold Sm; omega) | (simp only [Sm]; omega) | (simp only [Sm] at *; omega))
local macro_rules | `(tactic| walk_at "s_div") => `(tactic| exact cdivB (by omega) (by walk_at "s_sm"))
local macro_rules | `(tactic| walk_at "s_mod") => `(tactic| omega)
local macro_rules | `(tactic| walk_at "s_pow") => `(tactic| exact ⟨by omega, by omega, by omega⟩)
local macro_rules | `(tactic| walk_at "s_len") => `(tactic| first | decide | assumption | (simp only [List.length_map, List.length_append, List.length_cons, List.length_nil]; exact lenB (by omega)))
local macro_rules | `(tactic| walk_at "s_look") => `(tactic| rfl)
local macro_rules | `(tactic| walk_at "s_at") => `(tactic| rfl)
local macro_rules | `(tactic| walk_at "s_ix") => `(tactic| first | rfl | exact seq0 | (simp [seqIndex?]; done) | (simp [seqIndex?]; omega))
local macro_rules | `(tactic| walk_at "s_pop") => `(tactic| rfl)
local macro_rules | `(tactic| walk_at "s_okd") => `(tactic| rfl)
local macro_rules | `(tactic| walk_at "s_mem") => `(tactic| (intro v hv; simp only [List.mem_cons, List.not_mem_nil, or_false] at hv; omega))
local macro_rules | `(tactic| walk_at "s_mg") => `(tactic| assumption)
local macro_rules | `(tactic| walk_at "s_sw") => `(tactic| (obtain ⟨a1, a2, a3, a4⟩ := env; rfl))

/-! ### draws -/
theorem mulDraw {f t : Int} (h : 0 ≤ t ∧ t ≤ 1000000000) (hf : 0 ≤ f ∧ f < 2305843009213693951) : CMulW (f + 17 * t) ((t + 29) ^ Int.toNat 2) := by
  have e : (t + 29) ^ Int.toNat 2 = (t + 29) * (t + 29) := by
    show (t + 29) ^ 2 = _
    rw [Int.pow_succ, Int.pow_succ, Int.pow_zero, Int.one_mul]
  rw [e]
  have := mulB (a := t + 29) (b := t + 29) (A := 2000000000) (B := 2000000000) (by omega) (by omega)
  exact cmulB (by unfold Sm; omega) (by unfold Sm; omega)
theorem seq0 {n : Nat} : seqIndex? 0 (n + 1) = some 0 := by
  simp [seqIndex?]
def bagM (a g : Addr) (gr : List Int) (l t f : Int) : Cells := [(a, .dK [(.inr "great", .ptr g), (.inr "left", .int l), (.inr "turn", .int t), (.inr "fold", .int f)]), (g, .lst (gr.map D.int))]
def IsBag (T : Int) (a : Addr) (M : Cells) : Prop := ∃ g gr l t f, M = bagM a g gr l t f ∧ gr.length ≤ 63 ∧ 0 ≤ l ∧ (∀ x ∈ gr, 0 ≤ x) ∧ (0 ≤ t ∧ t ≤ T) ∧ (0 ≤ f ∧ f < 2305843009213693951)
abbrev s_bag : Stmt := topS 10
theorem sc_bag : FnScope ["script", "fold", "great", "cell"] ["script"] (defScope s_bag) := ⟨rfl, rfl, rfl, by decide +kernel, rfl, by decide +kernel, by decide +kernel⟩
abbrev s_draw : Stmt := topS 11
theorem sc_draw : FnScope ["bag", "many", "drawn", "turn", "mixed"] ["bag", "many"] (defScope s_draw) := ⟨rfl, rfl, rfl, by decide +kernel, rfl, by decide +kernel, by decide +kernel⟩

section
variable {P : Program} {w : World} {K : PySem.W.Frag} {mg : Str → Option Value} {base : Heap}
def pfBag : PF := fun ds M R _ => ∃ ns : List Int, ds = [.lst (ns.map D.int)] ∧ ns.length ≤ 63 ∧ M = [] ∧ ∀ a M', IsBag 0 a M' → R (.ptr a) M'
theorem ok_bag {f fd k} (F : Fun K "_law_bag" "_law_bag" s_bag f fd) (m_abs : mg "abs" = none) : FnOk P w K mg base (L2.CX P w) (k + 1) f fd ["script"] (liftF K pfBag) := by
  refine fn_mk F sc_bag (fun ds M R Z ⟨ns, e, _⟩ => by subst e; rfl) ?_
  rintro ds M R Z ⟨ns, rfl, hl, rfl, q⟩
  refine wss_cons (ws_par (i := 1) (j := 2) rfl rfl (by decide) rfl rfl (we_int (we_lstC (wa_nil (⟨Nat.le_of_ble_eq_true rfl, fun p1 => ?_⟩)))))
  refine wss_cons (ws_forL ns D.int (fun pre Γ2 M2 => ∃ (fo : Int) (c0 : Option D) (gr : List Int), Γ2 = [some (.lst (ns.map D.int)), some (.int fo), some (.ptr p1), c0] ∧ M2 = [(p1, .lst (gr.map D.int))] ∧ (0 ≤ fo ∧ fo < 2305843009213693951) ∧ gr.length ≤ pre.length ∧ ∀ x ∈ gr, 0 ≤ x)
    (we_var (i := 0) rfl (.inl rfl) rfl (?_)))
  refine ⟨rfl, ⟨_, _, [], rfl, rfl, by decide, by simp, by simp⟩, ?_, ?_⟩
  · rintro pre y post Γ2 M2 e ⟨fo, c0, gr, rfl, rfl, hf, hg, hp⟩
    have hlen : pre.length < 63 := by rw [e] at hl; simp at hl; omega
    refine wg_name (i := 3) rfl (.inl rfl) (?_)
    refine wss_cons (ws_asg (i := 1) rfl (.inl rfl) (we_mod (we_add (we_mul (we_var (i := 1) rfl (.inl rfl) rfl (we_int (⟨_, _, rfl, rfl, (by walk_at "s_mul"), we_var (i := 3) rfl (.inl rfl) rfl (⟨_, _, rfl, rfl, we_int (⟨_, _, rfl, rfl, (by walk_at "s_mod"), ?_⟩)⟩)⟩)))))))
    refine wss_cons (ws_if (wt_ge (we_abs rfl (by walk_at "s_mg") (we_var (i := 3) rfl (.inl rfl) rfl (⟨_, rfl, we_powK (v := 1000000000000000000) ⟨by decide, by decide, by decide⟩ (by decide +kernel) (⟨_, _, rfl, rfl, br_dec (fun h38 => ?_) (fun h38 => ?_)⟩)⟩)))))
    · refine wss_cons (ws_expr (we_append (we_var (i := 2) rfl (.inl rfl) rfl (⟨_, 0, _, rfl, rfl, we_abs rfl (by walk_at "s_mg") (we_var (i := 3) rfl (.inl rfl) rfl (⟨_, rfl, ⟨0, _, rfl, by walk_at "s_len", ?_⟩⟩))⟩))))
      refine wss_nil <| wss_nil ⟨_, _, gr ++ [if y < 0 then -y else y], rfl, by simp, ?_, ?_, ?_⟩
      · omega
      · simp; omega
      · intro x hx
        rcases List.mem_append.mp hx with hx | hx
        · exact hp x hx
        · simp at hx; subst hx; split <;> omega
    · refine wss_nil <| wss_nil ⟨_, _, gr, rfl, rfl, ?_, ?_, hp⟩
      · omega
      · simp; omega
  · rintro Γ2 M2 ⟨fo, c0, gr, rfl, rfl, hf, hg, hp⟩
    refine wss_cons (ws_ret (we_disp (kvs := [(_, _), (_, _), (_, _), (_, _)]) rfl rfl (by simp) (by decide) (?_)))
    intro p2
    refine wp_cons (we_str (we_var (i := 2) rfl (.inl rfl) rfl (?_)))
    refine wp_cons (we_str (we_int (?_)))
    refine wp_cons (we_str (we_int (?_)))
    refine wp_cons (we_str (we_var (i := 1) rfl (.inl rfl) rfl (?_)))
    refine wp_nil ⟨0, [(.inr _, _), (.inr _, _), (.inr _, _), (.inr _, _)], rfl, rfl, Nat.le_of_ble_eq_true rfl, ?_⟩
    exact q _ _ ⟨p1, gr, 0, 0, fo, rfl, Nat.le_trans hg hl, Int.le_refl _, hp, ⟨Int.le_refl _, Int.le_refl _⟩, hf⟩
/-- a draw: some number below many -/
def pfDraw : PF := fun ds M R _ => ∃ a many T, ds = [.ptr a, .int many] ∧ IsBag T a M ∧ (0 < many ∧ Sm many) ∧ T < 1000000000 ∧ ∀ r M', 0 ≤ r → r < many → IsBag (T + 1) a M' → R (.int r) M'
theorem ok_draw {f fd k} (F : Fun K "_law_draw" "_law_draw" s_draw f fd) (m_len : mg "len" = none) : FnOk P w K mg base (L2.CX P w) (k + 1) f fd ["bag", "many"] (liftF K pfDraw) := by
  refine fn_mk F sc_draw (fun ds M R Z ⟨a, many, T, e, _⟩ => by subst e; rfl) ?_
  rintro ds M R Z ⟨a, many, T, rfl, ⟨g, gr, left, turn, fold, rfl, h1, h2, h3, h4, h5⟩, ⟨hm, hm'⟩, hT, q⟩
  refine wss_cut (fun Γ1 M1 => ∃ gr left turn fold, Γ1 = [some (.ptr a), some (.int many), none, none, none] ∧ M1 = bagM a g gr left turn fold ∧ gr.length ≤ 63 ∧ 0 ≤ left ∧ (∀ x ∈ gr, 0 ≤ x) ∧ (0 ≤ turn ∧ turn ≤ T) ∧ (0 ≤ fold ∧ fold < 2305843009213693951)) (ws_if (wt_ww (ww_and (wt_lt (we_dget (we_var (i := 0) rfl (.inl rfl) rfl (we_str (⟨_, 0, _, .inr _, _, rfl, rfl, rfl, by walk_at "s_look", we_var (i := 1) rfl (.inl rfl) rfl (⟨_, _, rfl, rfl, br_dec (fun h42b => ww_and1 (wt_gt (we_len rfl (by walk_at "s_mg") (we_dget (we_var (i := 0) rfl (.inl rfl) rfl (we_str (⟨_, 0, _, .inr _, _, rfl, rfl, rfl, by walk_at "s_look", ⟨_, .inl (.cell (i := 1) rfl), we_int (⟨_, _, rfl, rfl, br_dec (fun h42 => ?_) (fun h42 => ?_)⟩)⟩⟩))))))) (fun h42b => br_f (?_))⟩)⟩)))))))) ?_
  · match gr, h1, h3 with
    | x :: gr, h1, h3 =>
      refine wss_cons (ws_dput (we_popAt (we_dget (we_var (i := 0) rfl (.inl rfl) rfl (we_str (⟨_, 0, _, .inr _, _, rfl, rfl, rfl, by walk_at "s_look", ⟨_, 1, _, rfl, rfl, we_int (⟨1, _, _, 0, _, rfl, rfl, by decide, by decide, by walk_at "s_ix", by walk_at "s_pop", we_var (i := 0) rfl (.inl rfl) rfl (we_str (⟨_, 0, _, .inr _, rfl, rfl, rfl, by walk_at "s_len", ?_⟩))⟩)⟩⟩))))))
      exact wss_nil ⟨gr, x, turn, fold, rfl, rfl, by simp at h1; omega, h3 x (by simp), fun y hy => h3 y (by simp [hy]), h4, h5⟩
    | [], _, _ => exact absurd ‹_› (by simp)
  · exact wss_nil ⟨gr, left, turn, fold, rfl, rfl, h1, h2, h3, h4, h5⟩
  · exact wss_nil ⟨gr, left, turn, fold, rfl, rfl, h1, h2, h3, h4, h5⟩
  clear h1 h2 h3 h4 h5
  rintro Γ1 M1 ⟨gr, left, turn, fold, rfl, rfl, h1, h2, h3, h4, h5⟩
  refine wss_cons (ws_if (wt_ge (we_dget (we_var (i := 0) rfl (.inl rfl) rfl (we_str (⟨_, 0, _, .inr _, _, rfl, rfl, rfl, by walk_at "s_look", we_var (i := 1) rfl (.inl rfl) rfl (⟨_, _, rfl, rfl, br_dec (fun h44 => ?_) (fun h44 => ?_)⟩)⟩))))))
  · refine wss_cons (ws_asg (i := 2) rfl (.inl rfl) (we_mod (we_dget (we_var (i := 0) rfl (.inl rfl) rfl (we_str (⟨_, 0, _, .inr _, _, rfl, rfl, rfl, by walk_at "s_look", we_var (i := 1) rfl (.inl rfl) rfl (⟨_, _, rfl, rfl, (by walk_at "s_mod"), ?_⟩)⟩))))))
    refine wss_cons (ws_dput (we_div (we_dget (we_var (i := 0) rfl (.inl rfl) rfl (we_str (⟨_, 0, _, .inr _, _, rfl, rfl, rfl, by walk_at "s_look", we_var (i := 1) rfl (.inl rfl) rfl (⟨_, _, rfl, rfl, (by walk_at "s_div"), we_var (i := 0) rfl (.inl rfl) rfl (we_str (⟨_, 0, _, .inr _, rfl, rfl, rfl, by walk_at "s_len", ?_⟩))⟩)⟩))))))
    refine wss_cons (ws_ret (we_var (i := 2) rfl (.inl rfl) rfl (?_)))
    refine q _ _ ?_ ?_ ⟨g, gr, left / many, turn, fold, rfl, h1, Int.ediv_nonneg h2 (by omega), h3, by omega, h5⟩
    · exact Int.emod_nonneg _ (by omega)
    · exact Int.emod_lt_of_pos _ hm
  · refine wss_nil ?_
    refine wss_cons (ws_dadd (we_var (i := 0) rfl (.inl rfl) rfl (we_str (⟨_, 0, _, .inr _, _, rfl, rfl, rfl, by walk_at "s_look", we_int (⟨0, _, _, rfl, rfl, by walk_at "s_len", ?_⟩)⟩))))
    refine wss_cons (ws_asg (i := 3) rfl (.inl rfl) (we_dget (we_var (i := 0) rfl (.inl rfl) rfl (we_str (⟨_, 0, _, .inr _, _, rfl, rfl, rfl, by walk_at "s_look", ?_⟩)))))
    refine wss_cons (ws_asg (i := 4) rfl (.inl rfl) (we_add (we_mul (we_add (we_dget (we_var (i := 0) rfl (.inl rfl) rfl (we_str (⟨_, 0, _, .inr _, _, rfl, rfl, rfl, by walk_at "s_look", we_mul (we_int (we_var (i := 3) rfl (.inl rfl) rfl (⟨_, _, rfl, rfl, (by walk_at "s_mul"), ⟨_, _, rfl, rfl, we_pow (we_add (we_var (i := 3) rfl (.inl rfl) rfl (we_int (⟨_, _, rfl, rfl, we_int (⟨_, _, rfl, rfl, (by walk_at "s_pow"), ⟨_, _, rfl, rfl, (by exact mulDraw (by omega) (by omega)), we_mul (we_int (we_var (i := 3) rfl (.inl rfl) rfl (⟨_, _, rfl, rfl, (by walk_at "s_mul"), ⟨_, _, rfl, rfl, ?_⟩⟩)))⟩⟩)⟩))))⟩⟩)))⟩))))))))
    refine wss_cons (ws_ret (we_mod (we_div (we_mod (we_pow (we_mod (we_var (i := 4) rfl (.inl rfl) rfl (we_int (⟨_, _, rfl, rfl, (by walk_at "s_mod"), we_int (⟨_, _, rfl, rfl, (by walk_at "s_pow"), we_add (we_powK (v := 1000000000000000000) ⟨by decide, by decide, by decide⟩ (by decide +kernel) (we_int (⟨_, _, rfl, rfl, ⟨_, _, rfl, rfl, (by walk_at "s_mod"), we_int (⟨_, _, rfl, rfl, (by walk_at "s_div"), we_var (i := 1) rfl (.inl rfl) rfl (⟨_, _, rfl, rfl, (by walk_at "s_mod"), ?_⟩)⟩)⟩⟩)))⟩)⟩)))))))))
    refine q _ _ ?_ ?_ ⟨g, gr, left, turn + 1, fold, rfl, h1, h2, h3, by omega, h5⟩
    · exact Int.emod_nonneg _ (by omega)
    · exact Int.emod_lt_of_pos _ hm

/-! ### fractions -/
def fr (f : Int × Int) : D := .tup [.int f.1, .int f.2]
def pfGcd : PF := fun ds M R _ => ∃ a b : Int, ds = [.int a, .int b] ∧ b ≠ 0 ∧ R (.int (Int.gcd a b)) M
theorem abs_gcd (a b : Int) : Int.gcd (if a < 0 then -a else a) (if b < 0 then -b else b) = Int.gcd a b := by
  split <;> split <;> simp [Int.neg_gcd, Int.gcd_neg]
abbrev s_gcd : Stmt := topS 4
theorem sc_gcd : FnScope ["one", "other"] ["one", "other"] (defScope s_gcd) := ⟨rfl, rfl, rfl, by decide +kernel, rfl, by decide +kernel, by decide +kernel⟩
abbrev s_lowest : Stmt := topS 5
theorem sc_lowest : FnScope ["top", "under", "divisor"] ["top", "under"] (defScope s_lowest) := ⟨rfl, rfl, rfl, by decide +kernel, rfl, by decide +kernel, by decide +kernel⟩
abbrev s_below : Stmt := topS 7
theorem sc_below : FnScope ["one", "other"] ["one", "other"] (defScope s_below) := ⟨rfl, rfl, rfl, by decide +kernel, rfl, by decide +kernel, by decide +kernel⟩
abbrev s_nb : Stmt := topS 8
theorem sc_nb : FnScope ["fraction", "bottom", "top", "under", "lower", "upper", "many", "down", "beyond"] ["fraction", "bottom"] (defScope s_nb) := ⟨rfl, rfl, rfl, by decide +kernel, rfl, by decide +kernel, by decide +kernel⟩

theorem ok_gcd {f fd k} (F : Fun K "greatest_divisor" "greatest_divisor" s_gcd f fd) (m_abs : mg "abs" = none) : FnOk P w K mg base (L2.CX P w) (k + 1) f fd ["one", "other"] (liftF K pfGcd) := by
  refine fn_mk F sc_gcd (fun ds M R Z ⟨a, b, e, _⟩ => by subst e; rfl) ?_
  rintro ds M R Z ⟨a, b, rfl, hb, q⟩
  refine wss_cons (ws_par (i := 0) (j := 1) rfl rfl (by decide) rfl rfl (we_abs rfl (by walk_at "s_mg") (we_var (i := 0) rfl (.inl rfl) rfl (⟨_, rfl, we_abs rfl (by walk_at "s_mg") (we_var (i := 1) rfl (.inl rfl) rfl (⟨_, rfl, ?_⟩))⟩))))
  refine wss_cons (ws_while (fun m Γ1 M1 => ∃ one other : Int, Γ1 = [some (.int one), some (.int other)] ∧ M1 = M ∧ m = one.toNat ∧ 0 ≤ one ∧ 0 ≤ other ∧ (one = 0 → 0 < other) ∧ Int.gcd one other = Int.gcd a b) _
    ⟨_, _, rfl, rfl, rfl, by split <;> omega, by split <;> omega, by split <;> split <;> omega, abs_gcd a b⟩ ?_)
  rintro m Γ1 M1 ⟨one, other, rfl, rfl, rfl, h1, h2, h3, h4⟩
  refine wt_gt (we_var (i := 0) rfl (.inl rfl) rfl (we_int (⟨_, _, rfl, rfl, br_dec (fun h11 => ?_) (fun h11 => ?_)⟩)))
  · refine wss_cons (ws_par (i := 0) (j := 1) rfl rfl (by decide) rfl rfl (we_mod (we_var (i := 1) rfl (.inl rfl) rfl (we_var (i := 0) rfl (.inl rfl) rfl (⟨_, _, rfl, rfl, (by walk_at "s_mod"), we_var (i := 0) rfl (.inl rfl) rfl (?_)⟩)))))
    have h5 : 0 ≤ other % one := Int.emod_nonneg _ (by omega)
    have h6 : other % one < one := Int.emod_lt_of_pos _ (by omega)
    refine wss_nil ⟨_, by omega, _, _, rfl, rfl, rfl, h5, h1, fun _ => by omega, ?_⟩
    rw [← h4, gcd_mod]
  · have e : one = 0 := by omega
    subst e
    refine wss_cons (ws_ret (we_var (i := 1) rfl (.inl rfl) rfl (?_)))
    have e2 : (Int.gcd a b : Int) = other := by
      rw [← h4, Int.gcd_zero_left]
      omega
    rw [← e2]
    exact q
def pfLowest : PF := fun ds M R _ => ∃ a b : Int, ds = [.int a, .int b] ∧ 0 < b ∧ Sm b ∧ R (fr (low a b)) M
theorem ok_lowest {f fd f1 fd1} (F : Fun K "lowest" "lowest" s_lowest f fd) (D_gcd : Def P w K mg base "greatest_divisor" f1 fd1 ["one", "other"] 1 pfGcd) : FnOk P w K mg base (L2.CX P w) 2 f fd ["top", "under"] (liftF K pfLowest) := by
  refine fn_mk F sc_lowest (fun ds M R Z ⟨a, b, e, _⟩ => by subst e; rfl) ?_
  rintro ds M R Z ⟨a, b, rfl, hb, hs, q⟩
  have hg := gcd_pos (a := a) hb
  have hg2 : (Int.gcd a b : Int) ≤ b := Int.le_of_dvd hb (Int.gcd_dvd_right ..)
  refine wss_cons (ws_asg (i := 2) rfl (.inl rfl) (we_call D_gcd (Nat.le_of_ble_eq_true rfl) rfl (wa_cons (we_var (i := 0) rfl (.inl rfl) rfl (wa_cons (we_var (i := 1) rfl (.inl rfl) rfl (wa_nil (?_))))))))
  refine callee0 fun R Z hR hZ => ⟨a, b, rfl, by omega, hR _ _ ?_⟩
  refine wss_cons (ws_ret (we_tup (wa_cons (we_div (we_var (i := 0) rfl (.inl rfl) rfl (we_var (i := 2) rfl (.inl rfl) rfl (⟨_, _, rfl, rfl, (by walk_at "s_div"), wa_cons (we_div (we_var (i := 1) rfl (.inl rfl) rfl (we_var (i := 2) rfl (.inl rfl) rfl (⟨_, _, rfl, rfl, (by walk_at "s_div"), wa_nil (⟨Nat.le_of_ble_eq_true rfl, ?_⟩)⟩))))⟩)))))))
  exact q
def pfBelow : PF := fun ds M R _ => ∃ x y, ds = [fr x, fr y] ∧ (Sm x.1 ∧ Sm x.2 ∧ Sm y.1 ∧ Sm y.2) ∧ R (.bl (decide (Below x y))) M
theorem ok_below {f fd k} (F : Fun K "is_below" "is_below" s_below f fd) : FnOk P w K mg base (L2.CX P w) (k + 1) f fd ["one", "other"] (liftF K pfBelow) := by
  refine fn_mk F sc_below (fun ds M R Z ⟨x, y, e, _⟩ => by subst e; rfl) ?_
  rintro ds M R Z ⟨x, y, rfl, ⟨h1, h2, h3, h4⟩, q⟩
  refine wss_cons (ws_ret (we_lt (we_mul (we_ix (we_var (i := 0) rfl (.inl rfl) rfl (we_int (⟨_, _, _, .inl rfl, rfl, by walk_at "s_at", we_ix (we_var (i := 1) rfl (.inl rfl) rfl (we_int (⟨_, _, _, .inl rfl, rfl, by walk_at "s_at", ⟨_, _, rfl, rfl, (by walk_at "s_mul"), we_mul (we_ix (we_var (i := 1) rfl (.inl rfl) rfl (we_int (⟨_, _, _, .inl rfl, rfl, by walk_at "s_at", we_ix (we_var (i := 0) rfl (.inl rfl) rfl (we_int (⟨_, _, _, .inl rfl, rfl, by walk_at "s_at", ⟨_, _, rfl, rfl, (by walk_at "s_mul"), ⟨_, _, rfl, rfl, ?_⟩⟩⟩)))⟩))))⟩⟩)))⟩)))))))
  exact q
/-! ### neighbours -/
def optD : Option (Int × Int) → D
  | none => .non
  | some f => fr f
/-- what is kept while the bottoms to k were gone through -/
def LoO (p q k : Int) (l : Option (Int × Int)) : Prop := (k = 0 ∧ l = none) ∨ ∃ f, l = some f ∧ Lo p q k f ∧ 0 < k ∧ -(10 ^ 70) ≤ f.1 ∧ f.1 ≤ 10 ^ 70
def UpO (p q k : Int) (l : Option (Int × Int)) : Prop := (k = 0 ∧ l = none) ∨ ∃ f, l = some f ∧ Up p q k f ∧ 0 < k ∧ -(10 ^ 70) ≤ f.1 ∧ f.1 ≤ 10 ^ 70
def pfNb : PF := fun ds M R _ => ∃ p q n : Int, ds = [fr (p, q), .int n] ∧ (1 ≤ q ∧ q ≤ 10 ^ 31) ∧ (-(10 ^ 61) ≤ p ∧ p ≤ 10 ^ 61) ∧ (1 ≤ n ∧ n ≤ 1000) ∧ ∀ l u, Lo p q n l → Up p q n u → R (.tup [fr (low l.1 l.2), fr (low u.1 u.2)]) M
theorem ok_nb {f fd f1 fd1 f2 fd2} (F : Fun K "neighbours" "neighbours" s_nb f fd) (m_range : mg "range" = none) (m_min : mg "min" = none)
    (D_below : Def P w K mg base "is_below" f1 fd1 ["one", "other"] 1 pfBelow) (D_lowest : Def P w K mg base "lowest" f2 fd2 ["top", "under"] 2 pfLowest) : FnOk P w K mg base (L2.CX P w) 3 f fd ["fraction", "bottom"] (liftF K pfNb) := by
  refine fn_mk F sc_nb (fun ds M R Z ⟨a, b, n, e, _⟩ => by subst e; rfl) ?_
  rintro ds M R Z ⟨p, q, n, rfl, hq, hp, hn, k⟩
  refine wss_cons (ws_if (wt_lt (we_var (i := 1) rfl (.inl rfl) rfl (we_int (⟨_, _, rfl, rfl, br_dec (fun h21 => ?_) (fun h21 => ?_)⟩)))))
  · omega
  refine wss_nil ?_
  refine wss_cons (ws_asgG (we_var (i := 0) rfl (.inl rfl) rfl (wg_tup rfl (wgs_cons (wg_name (i := 2) rfl (.inl rfl) (wgs_cons (wg_name (i := 3) rfl (.inl rfl) (wgs_nil (?_)))))))))
  refine wss_cons (ws_asgG (we_tup (wa_cons (we_non (wa_cons (we_non (wa_nil (⟨Nat.le_of_ble_eq_true rfl, wg_tup rfl (wgs_cons (wg_name (i := 4) rfl (.inl rfl) (wgs_cons (wg_name (i := 5) rfl (.inl rfl) (wgs_nil (?_))))))⟩))))))))
  refine wss_cons (ws_forR2 (i := 6) rfl m_range rfl (.inl rfl) (fun k Γ1 M1 => ∃ (l u : Option (Int × Int)) (c1 c2 c3 : Option D), Γ1 = [some (fr (p, q)), some (.int n), some (.int p), some (.int q), some (optD l), some (optD u), c1, c2, c3] ∧ M1 = M ∧ LoO p q k l ∧ UpO p q k u)
    (we_int (we_add (we_min2 rfl (by walk_at "s_mg") (we_var (i := 1) rfl (.inl rfl) rfl (we_var (i := 3) rfl (.inl rfl) rfl (⟨_, _, rfl, rfl, we_int (⟨_, _, rfl, rfl, ⟨_, _, rfl, rfl, ?_⟩⟩)⟩)))))))
  have ep : ∀ k : Int, p * k = k * p := fun k => Int.mul_comm _ _
  refine ⟨by split <;> omega, ⟨none, none, none, none, none, rfl, rfl, .inl ⟨rfl, rfl⟩, .inl ⟨rfl, rfl⟩⟩, ?_, ?_⟩
  · rintro k2 Γ2 M2 hk ⟨l, u, c1, c2, c3, rfl, rfl, hl, hu⟩
    have hk2 : (k2 : Int) < 1000 := by split at hk <;> omega
    have hpm := mulB (a := p) (b := 1 + (k2 : Int)) (A := 10 ^ 61) (B := 1000) hp (by omega)
    have hd1 := divB (a := p * (1 + (k2 : Int))) (q := q) (A := 10 ^ 61 * 1000) hpm hq.1
    have hd2 := divB (a := 0 - p * (1 + (k2 : Int))) (q := q) (A := 10 ^ 61 * 1000) (by omega) hq.1
    refine wss_cons (ws_asg (i := 7) rfl (.inl rfl) (we_tup (wa_cons (we_div (we_mul (we_var (i := 2) rfl (.inl rfl) rfl (we_var (i := 6) rfl (.inl rfl) rfl (⟨_, _, rfl, rfl, (by walk_at "s_mul"), we_var (i := 3) rfl (.inl rfl) rfl (⟨_, _, rfl, rfl, (by walk_at "s_div"), wa_cons (we_var (i := 6) rfl (.inl rfl) rfl (wa_nil (⟨Nat.le_of_ble_eq_true rfl, ?_⟩)))⟩)⟩))))))))
    refine wss_cons (ws_asg (i := 8) rfl (.inl rfl) (we_tup (wa_cons (we_sub (we_int (we_div (we_sub (we_int (we_mul (we_var (i := 2) rfl (.inl rfl) rfl (we_var (i := 6) rfl (.inl rfl) rfl (⟨_, _, rfl, rfl, (by walk_at "s_mul"), ⟨_, _, rfl, rfl, we_var (i := 3) rfl (.inl rfl) rfl (⟨_, _, rfl, rfl, (by walk_at "s_div"), ⟨_, _, rfl, rfl, wa_cons (we_var (i := 6) rfl (.inl rfl) rfl (wa_nil (⟨Nat.le_of_ble_eq_true rfl, ?_⟩)))⟩⟩)⟩⟩))))))))))))
    generalize hdn : p * (1 + (k2 : Int)) / q = dn at *
    generalize hbe : (0 - p * (1 + (k2 : Int))) / q = be at *
    have hdn2 : ∀ x, x * q ≤ p * ((k2 : Int) + 1) ↔ x ≤ dn := fun x => by
      rw [floor_iff (by omega), Int.add_comm, hdn]
    have hup2 : ∀ x, p * ((k2 : Int) + 1) ≤ x * q ↔ 0 - be ≤ x := fun x => by
      rw [ceil_iff (by omega), Int.add_comm, hbe]
    have e1 : (1 + (k2 : Int)) = k2 + 1 := Int.add_comm _ _
    have hc1 : (dn, 1 + (k2 : Int)).1 * ((k2 : Int) + 1) = dn * (dn, 1 + (k2 : Int)).2 := by rw [e1]
    have hc2 : (0 - be, 1 + (k2 : Int)).1 * ((k2 : Int) + 1) = (0 - be) * (0 - be, 1 + (k2 : Int)).2 := by rw [e1]
    refine wss_cut (fun Γ3 M3 => ∃ l, Γ3 = [some (fr (p, q)), some (.int n), some (.int p), some (.int q), some (optD l), some (optD u), some (.int (1 + (k2 : Int))), some (fr (dn, 1 + (k2 : Int))), some (fr (0 - be, 1 + (k2 : Int)))] ∧ M3 = M2 ∧ LoO p q (k2 + 1) l) ?_ ?_
    · rcases hl with ⟨e0, rfl⟩ | ⟨f, rfl, hf, h0, h1, h2⟩
      · have e0' : k2 = 0 := by omega
        subst e0'
        refine ws_if (wt_ww (ww_or (wt_isN (we_var (i := 4) rfl (.inl rfl) rfl (br_t (br_t (?_)))))))
        · refine wss_cons (ws_asg (i := 4) rfl (.inl rfl) (we_var (i := 7) rfl (.inl rfl) rfl (?_)))
          exact wss_nil ⟨some (dn, 1 + ((0 : Nat) : Int)), rfl, rfl, .inr ⟨_, rfl, Lo.first (by omega) hdn2 rfl (by simp), by omega, by simp only; omega, by simp only; omega⟩⟩
      · have hb := hf.bk
        have hb1 := hf.b1
        have hst := hf.step (c := (dn, 1 + (k2 : Int))) (by omega) (by omega) hdn2 (by simp only; omega) (by simp only; omega) hc1
        refine ws_if (wt_ww (ww_or (wt_isN (we_var (i := 4) rfl (.inl rfl) rfl (br_f (ww_or1 (wt_val (we_call D_below (Nat.le_of_ble_eq_true rfl) rfl (wa_cons (we_var (i := 4) rfl (.inl rfl) rfl (wa_cons (we_var (i := 7) rfl (.inl rfl) rfl (wa_nil ((callee0 fun R Z hR hZ => ⟨(_, _), (_, _), rfl, ⟨by walk_at "s_sm", by walk_at "s_sm", by walk_at "s_sm", by walk_at "s_sm"⟩, hR _ _ (⟨_, rfl, br_dec (fun h28 => ?_) (fun h28 => ?_)⟩)⟩)))))))))))))))
        · refine wss_cons (ws_asg (i := 4) rfl (.inl rfl) (we_var (i := 7) rfl (.inl rfl) rfl (?_)))
          rw [if_pos h28] at hst
          exact wss_nil ⟨some (dn, 1 + (k2 : Int)), rfl, rfl, .inr ⟨_, rfl, hst, by omega, by simp only; omega, by simp only; omega⟩⟩
        · rw [if_neg h28] at hst
          exact wss_nil ⟨some f, rfl, rfl, .inr ⟨_, rfl, hst, by omega, h1, h2⟩⟩
    rintro Γ3 M3 ⟨l, rfl, rfl, hl2⟩
    refine wss_cons ?_
    rcases hu with ⟨e0, rfl⟩ | ⟨f, rfl, hf, h0, h1, h2⟩
    · have e0' : k2 = 0 := by omega
      subst e0'
      refine ws_if (wt_ww (ww_or (wt_isN (we_var (i := 5) rfl (.inl rfl) rfl (br_t (br_t (?_)))))))
      · refine wss_cons (ws_asg (i := 5) rfl (.inl rfl) (we_var (i := 8) rfl (.inl rfl) rfl (?_)))
        exact wss_nil (wss_nil ⟨l, some (0 - be, 1 + ((0 : Nat) : Int)), _, _, _, rfl, rfl, hl2, .inr ⟨_, rfl, Up.first (by omega) hup2 rfl (by simp), by omega, by simp only; omega, by simp only; omega⟩⟩)
    · have hb := hf.bk
      have hb1 := hf.b1
      have hst := hf.step (c := (0 - be, 1 + (k2 : Int))) (by omega) (by omega) hup2 (by simp only; omega) (by simp only; omega) hc2
      refine ws_if (wt_ww (ww_or (wt_isN (we_var (i := 5) rfl (.inl rfl) rfl (br_f (ww_or1 (wt_val (we_call D_below (Nat.le_of_ble_eq_true rfl) rfl (wa_cons (we_var (i := 8) rfl (.inl rfl) rfl (wa_cons (we_var (i := 5) rfl (.inl rfl) rfl (wa_nil ((callee0 fun R Z hR hZ => ⟨(_, _), (_, _), rfl, ⟨by walk_at "s_sm", by walk_at "s_sm", by walk_at "s_sm", by walk_at "s_sm"⟩, hR _ _ (⟨_, rfl, br_dec (fun h30 => ?_) (fun h30 => ?_)⟩)⟩)))))))))))))))
      · refine wss_cons (ws_asg (i := 5) rfl (.inl rfl) (we_var (i := 8) rfl (.inl rfl) rfl (?_)))
        rw [if_pos h30] at hst
        exact wss_nil (wss_nil ⟨l, some (0 - be, 1 + (k2 : Int)), _, _, _, rfl, rfl, hl2, .inr ⟨_, rfl, hst, by omega, by simp only; omega, by simp only; omega⟩⟩)
      · rw [if_neg h30] at hst
        exact wss_nil (wss_nil ⟨l, some f, _, _, _, rfl, rfl, hl2, .inr ⟨_, rfl, hst, by omega, h1, h2⟩⟩)
  · rintro Γ2 M2 ⟨l, u, c1, c2, c3, rfl, rfl, hl, hu⟩
    have hkk : 0 < (if q < n then q else n) := by split <;> omega
    have ek : ((if q < n then q else n) + 1 - 1).toNat = (if q < n then q else n) := by omega
    rw [ek] at hl hu
    rcases hl with ⟨e0, _⟩ | ⟨f, rfl, hf, _, f1, f2⟩
    · omega
    rcases hu with ⟨e0, _⟩ | ⟨g, rfl, hg, _, g1, g2⟩
    · omega
    have hf' := hf.all hq.1 rfl (by split <;> omega)
    have hg' := hg.all hq.1 rfl (by split <;> omega)
    have := hf'.b1; have := hf'.bk; have := hg'.b1; have := hg'.bk
    refine wss_cons (ws_ret (we_tup (wa_cons (we_call D_lowest (Nat.le_of_ble_eq_true rfl) rfl (wa_cons (we_ix (we_var (i := 4) rfl (.inl rfl) rfl (we_int (⟨_, _, _, .inl rfl, rfl, by walk_at "s_at", wa_cons (we_ix (we_var (i := 4) rfl (.inl rfl) rfl (we_int (⟨_, _, _, .inl rfl, rfl, by walk_at "s_at", wa_nil ((callee0 fun R Z hR hZ => ⟨_, _, rfl, by omega, by walk_at "s_sm", hR _ _ (wa_cons (we_call D_lowest (Nat.le_of_ble_eq_true rfl) rfl (wa_cons (we_ix (we_var (i := 5) rfl (.inl rfl) rfl (we_int (⟨_, _, _, .inl rfl, rfl, by walk_at "s_at", wa_cons (we_ix (we_var (i := 5) rfl (.inl rfl) rfl (we_int (⟨_, _, _, .inl rfl, rfl, by walk_at "s_at", wa_nil ((callee0 fun R Z hR hZ => ⟨_, _, rfl, by omega, by walk_at "s_sm", hR _ _ (wa_nil (⟨Nat.le_of_ble_eq_true rfl, ?_⟩))⟩))⟩))))⟩)))))))⟩))⟩))))⟩)))))))))
    exact k f g hf' hg'
/-! ### the law's own -/
abbrev s_ldiv : Stmt := topS 12
theorem sc_ldiv : FnScope ["one", "other"] ["one", "other"] (defScope s_ldiv) := ⟨rfl, rfl, rfl, by decide +kernel, rfl, by decide +kernel, by decide +kernel⟩
abbrev s_llow : Stmt := topS 13
theorem sc_llow : FnScope ["top", "under", "divisor"] ["top", "under"] (defScope s_llow) := ⟨rfl, rfl, rfl, by decide +kernel, rfl, by decide +kernel, by decide +kernel⟩
abbrev s_lbel : Stmt := topS 14
theorem sc_lbel : FnScope ["one", "other"] ["one", "other"] (defScope s_lbel) := ⟨rfl, rfl, rfl, by decide +kernel, rfl, by decide +kernel, by decide +kernel⟩
abbrev s_lsid : Stmt := topS 15
theorem sc_lsid : FnScope ["pace", "most", "lower", "upper", "under", "down", "top", "one"] ["pace", "most"] (defScope s_lsid) := ⟨rfl, rfl, rfl, by decide +kernel, rfl, by decide +kernel, by decide +kernel⟩
abbrev s_law : Stmt := topS 16
theorem sc_law : FnScope ["script", "bag", "turn", "top", "under", "pace", "most", "due"] ["script"] (defScope s_law) := ⟨rfl, rfl, rfl, by decide +kernel, rfl, by decide +kernel, by decide +kernel⟩

def pfDiv : PF := fun ds M R _ => ∃ a b : Int, ds = [.int a, .int b] ∧ 0 < b ∧ R (.int (Int.gcd a b)) M
theorem ok_ldiv {f fd k} (F : Fun K "_law_divisor" "_law_divisor" s_ldiv f fd) (m_abs : mg "abs" = none) : FnOk P w K mg base (L2.CX P w) (k + 1) f fd ["one", "other"] (liftF K pfDiv) := by
  refine fn_mk F sc_ldiv (fun ds M R Z ⟨a, b, e, _⟩ => by subst e; rfl) ?_
  rintro ds M R Z ⟨a, b, rfl, hb, q⟩
  refine wss_cons (ws_while (fun m Γ1 M1 => ∃ one other : Int, Γ1 = [some (.int one), some (.int other)] ∧ M1 = M ∧ m = other.toNat ∧ 0 ≤ other ∧ Int.gcd one other = Int.gcd a b) _
    ⟨_, _, rfl, rfl, rfl, by omega, rfl⟩ ?_)
  rintro m Γ1 M1 ⟨one, other, rfl, rfl, rfl, h1, h2⟩
  refine wt_neI (we_var (i := 1) rfl (.inl rfl) rfl (we_int (⟨_, _, rfl, rfl, br_nd (fun h53 => ?_) (fun h53 => ?_)⟩)))
  · refine wss_cons (ws_par (i := 0) (j := 1) rfl rfl (by decide) rfl rfl (we_var (i := 1) rfl (.inl rfl) rfl (we_mod (we_var (i := 0) rfl (.inl rfl) rfl (we_var (i := 1) rfl (.inl rfl) rfl (⟨_, _, rfl, rfl, (by walk_at "s_mod"), ?_⟩))))))
    have h5 : 0 ≤ one % other := Int.emod_nonneg _ (by omega)
    have h6 : one % other < other := Int.emod_lt_of_pos _ (by omega)
    refine wss_nil ⟨_, by omega, _, _, rfl, rfl, rfl, h5, ?_⟩
    rw [← h2, Int.gcd_comm, gcd_mod, Int.gcd_comm]
  · refine wss_cons (ws_ret (we_abs rfl (by walk_at "s_mg") (we_var (i := 0) rfl (.inl rfl) rfl (⟨_, rfl, ?_⟩))))
    have e2 : (Int.gcd a b : Int) = if one < 0 then -one else one := by
      rw [← h2, h53, Int.gcd_zero_right]
      split <;> omega
    rw [← e2]
    exact q
theorem ok_llow {f fd f1 fd1} (F : Fun K "_law_lowest" "_law_lowest" s_llow f fd) (D_l_divisor : Def P w K mg base "_law_divisor" f1 fd1 ["one", "other"] 1 pfDiv) : FnOk P w K mg base (L2.CX P w) 2 f fd ["top", "under"] (liftF K pfLowest) := by
  refine fn_mk F sc_llow (fun ds M R Z ⟨a, b, e, _⟩ => by subst e; rfl) ?_
  rintro ds M R Z ⟨a, b, rfl, hb, hs, q⟩
  have hg := gcd_pos (a := a) hb
  have hg2 : (Int.gcd a b : Int) ≤ b := Int.le_of_dvd hb (Int.gcd_dvd_right ..)
  refine wss_cons (ws_asg (i := 2) rfl (.inl rfl) (we_call D_l_divisor (Nat.le_of_ble_eq_true rfl) rfl (wa_cons (we_var (i := 0) rfl (.inl rfl) rfl (wa_cons (we_var (i := 1) rfl (.inl rfl) rfl (wa_nil (?_))))))))
  refine callee0 fun R Z hR hZ => ⟨a, b, rfl, by omega, hR _ _ ?_⟩
  refine wss_cons (ws_ret (we_tup (wa_cons (we_div (we_var (i := 0) rfl (.inl rfl) rfl (we_var (i := 2) rfl (.inl rfl) rfl (⟨_, _, rfl, rfl, (by walk_at "s_div"), wa_cons (we_div (we_var (i := 1) rfl (.inl rfl) rfl (we_var (i := 2) rfl (.inl rfl) rfl (⟨_, _, rfl, rfl, (by walk_at "s_div"), wa_nil (⟨Nat.le_of_ble_eq_true rfl, ?_⟩)⟩))))⟩)))))))
  exact q
theorem ok_lbel {f fd k} (F : Fun K "_law_below" "_law_below" s_lbel f fd) : FnOk P w K mg base (L2.CX P w) (k + 1) f fd ["one", "other"] (liftF K pfBelow) := by
  refine fn_mk F sc_lbel (fun ds M R Z ⟨x, y, e, _⟩ => by subst e; rfl) ?_
  rintro ds M R Z ⟨x, y, rfl, ⟨h1, h2, h3, h4⟩, q⟩
  refine wss_cons (ws_ret (we_lt (we_mul (we_ix (we_var (i := 0) rfl (.inl rfl) rfl (we_int (⟨_, _, _, .inl rfl, rfl, by walk_at "s_at", we_ix (we_var (i := 1) rfl (.inl rfl) rfl (we_int (⟨_, _, _, .inl rfl, rfl, by walk_at "s_at", ⟨_, _, rfl, rfl, (by walk_at "s_mul"), we_mul (we_ix (we_var (i := 1) rfl (.inl rfl) rfl (we_int (⟨_, _, _, .inl rfl, rfl, by walk_at "s_at", we_ix (we_var (i := 0) rfl (.inl rfl) rfl (we_int (⟨_, _, _, .inl rfl, rfl, by walk_at "s_at", ⟨_, _, rfl, rfl, (by walk_at "s_mul"), ⟨_, _, rfl, rfl, ?_⟩⟩⟩)))⟩))))⟩⟩)))⟩)))))))
  exact q
def RedO (l : Option (Int × Int)) : Prop := ∀ f, l = some f → Red f
def pfSides : PF := fun ds M R _ => ∃ p q n : Int, ds = [fr (p, q), .int n] ∧ (1 ≤ q ∧ q ≤ 10 ^ 31) ∧ (-(10 ^ 61) ≤ p ∧ p ≤ 10 ^ 61) ∧ (1 ≤ n ∧ n ≤ 1000) ∧ ∀ l u, Lo p q n l → Up p q n u → Red l → Red u → R (.tup [fr l, fr u]) M
theorem ok_lsid {f fd f1 fd1 f2 fd2} (F : Fun K "_law_sides" "_law_sides" s_lsid f fd) (m_range : mg "range" = none)
    (D_l_below : Def P w K mg base "_law_below" f1 fd1 ["one", "other"] 1 pfBelow) (D_l_lowest : Def P w K mg base "_law_lowest" f2 fd2 ["top", "under"] 2 pfLowest) : FnOk P w K mg base (L2.CX P w) 3 f fd ["pace", "most"] (liftF K pfSides) := by
  refine fn_mk F sc_lsid (fun ds M R Z ⟨a, b, n, e, _⟩ => by subst e; rfl) ?_
  rintro ds M R Z ⟨p, q, n, rfl, hq, hp, hn, k⟩
  refine wss_cons (ws_asgG (we_tup (wa_cons (we_non (wa_cons (we_non (wa_nil (⟨Nat.le_of_ble_eq_true rfl, wg_tup rfl (wgs_cons (wg_name (i := 2) rfl (.inl rfl) (wgs_cons (wg_name (i := 3) rfl (.inl rfl) (wgs_nil (?_))))))⟩))))))))
  refine wss_cons (ws_forR2 (i := 4) rfl m_range rfl (.inl rfl) (fun k Γ1 M1 => ∃ (l u : Option (Int × Int)) (c1 c2 c3 c4 : Option D), Γ1 = [some (fr (p, q)), some (.int n), some (optD l), some (optD u), c1, c2, c3, c4] ∧ M1 = M ∧ LoO p q k l ∧ UpO p q k u ∧ RedO l ∧ RedO u)
    (we_int (we_add (we_var (i := 1) rfl (.inl rfl) rfl (we_int (⟨_, _, rfl, rfl, ⟨_, _, rfl, rfl, ?_⟩⟩))))))
  refine ⟨by omega, ⟨none, none, none, none, none, none, rfl, rfl, .inl ⟨rfl, rfl⟩, .inl ⟨rfl, rfl⟩, nofun, nofun⟩, ?_, ?_⟩
  · rintro k2 Γ2 M2 hk ⟨l, u, c1, c2, c3, c4, rfl, rfl, hl, hu, rl, ru⟩
    have hpm := mulB (a := p) (b := 1 + (k2 : Int)) (A := 10 ^ 61) (B := 1000) hp (by omega)
    have hd1 := divB (a := p * (1 + (k2 : Int))) (q := q) (A := 10 ^ 61 * 1000) hpm hq.1
    refine wss_cons (ws_asg (i := 5) rfl (.inl rfl) (we_div (we_mul (we_ix (we_var (i := 0) rfl (.inl rfl) rfl (we_int (⟨_, _, _, .inl rfl, rfl, by walk_at "s_at", we_var (i := 4) rfl (.inl rfl) rfl (⟨_, _, rfl, rfl, (by walk_at "s_mul"), we_ix (we_var (i := 0) rfl (.inl rfl) rfl (we_int (⟨_, _, _, .inl rfl, rfl, by walk_at "s_at", ⟨_, _, rfl, rfl, (by walk_at "s_div"), ?_⟩⟩)))⟩)⟩)))))))
    generalize hdn : p * (1 + (k2 : Int)) / q = dn at *
    have hdn2 : ∀ x, x * q ≤ p * ((k2 : Int) + 1) ↔ x ≤ dn := fun x => by
      rw [floor_iff (by omega), Int.add_comm, hdn]
    refine wss_cons (ws_forT [dn, dn + 1] D.int (fun pre Γ3 M3 => ∃ (l u : Option (Int × Int)) (c3 c4 : Option D), Γ3 = [some (fr (p, q)), some (.int n), some (optD l), some (optD u), some (.int (1 + (k2 : Int))), some (.int dn), c3, c4] ∧ M3 = M2 ∧ RedO l ∧ RedO u ∧
      ((pre = [] ∧ LoO p q k2 l ∧ UpO p q k2 u) ∨ (pre = [dn] ∧ LoO p q (k2 + 1) l ∧ ((p * (k2 + 1) ≤ dn * q ∧ UpO p q (k2 + 1) u) ∨ (¬ p * (k2 + 1) ≤ dn * q ∧ UpO p q k2 u))) ∨ (pre = [dn, dn + 1] ∧ LoO p q (k2 + 1) l ∧ UpO p q (k2 + 1) u)))
      (we_tup (wa_cons (we_var (i := 5) rfl (.inl rfl) rfl (wa_cons (we_add (we_var (i := 5) rfl (.inl rfl) rfl (we_int (⟨_, _, rfl, rfl, wa_nil (⟨Nat.le_of_ble_eq_true rfl, ?_⟩)⟩)))))))))
    refine ⟨rfl, ⟨l, u, _, _, rfl, rfl, rl, ru, .inl ⟨rfl, hl, hu⟩⟩, ?_, ?_⟩
    · rintro pre t post Γ3 M3 e ⟨l, u, c3, c4, rfl, rfl, rl, ru, hpre⟩
      have hy : 0 < 1 + (k2 : Int) := by omega
      have hv := low_val (a := t) hy
      have e1 : (1 + (k2 : Int)) = k2 + 1 := Int.add_comm _ _
      have hcmp := cmp (c := low t (1 + (k2 : Int))) (t := t) (y := 1 + (k2 : Int)) (p := p) (q := q) hy hv.2.1 hv.1
      have htd : t = dn ∨ t = dn + 1 := by
        have : t ∈ [dn, dn + 1] := by rw [e]; simp
        simpa using this
      have hB : -(10 ^ 70) ≤ (low t (1 + (k2 : Int))).1 ∧ (low t (1 + (k2 : Int))).1 ≤ 10 ^ 70 := by
        have := divB (a := t) (q := (Int.gcd t (1 + (k2 : Int)) : Int)) (A := 10 ^ 70) (by omega) (by have := gcd_pos (a := t) hy; omega)
        exact this
      have hred := red_low (a := t) hy
      refine wg_name (i := 6) rfl (.inl rfl) (?_)
      refine wss_cons (ws_asg (i := 7) rfl (.inl rfl) (we_call D_l_lowest (Nat.le_of_ble_eq_true rfl) rfl (wa_cons (we_var (i := 6) rfl (.inl rfl) rfl (wa_cons (we_var (i := 4) rfl (.inl rfl) rfl (wa_nil ((callee0 fun R Z hR hZ => ⟨_, _, rfl, by omega, by walk_at "s_sm", hR _ _ (?_)⟩)))))))))
      have hc : (low t (1 + (k2 : Int))).1 * ((k2 : Int) + 1) = t * (low t (1 + (k2 : Int))).2 := by rw [← e1]; exact hv.1
      generalize low t (1 + (k2 : Int)) = c at *
      rcases hpre with ⟨rfl, hl, hu⟩ | ⟨rfl, hl, hu⟩ | ⟨rfl, _, _⟩
      · -- the floor
        have et : t = dn := by simp at e; exact e.1.symm
        subst et
        have hle : t * q ≤ p * ((k2 : Int) + 1) := (hdn2 t).mpr (Int.le_refl _)
        have hnb : ¬ Below (p, q) c := by
          unfold Below
          have := (hcmp.1).mpr (by rw [e1]; exact hle)
          simp only
          omega
        refine wss_cut (fun Γ4 M4 => ∃ l, Γ4 = [some (fr (p, q)), some (.int n), some (optD l), some (optD u), some (.int (1 + (k2 : Int))), some (.int t), some (.int t), some (fr c)] ∧ M4 = M3 ∧ RedO l ∧ LoO p q (k2 + 1) l) ?_ ?_
        · rcases hl with ⟨e0, rfl⟩ | ⟨f, rfl, hf, h0, h1, h2⟩
          · have e0' : k2 = 0 := by omega
            subst e0'
            refine ws_if (wt_ww (ww_and (wt_not (wt_val (we_call D_l_below (Nat.le_of_ble_eq_true rfl) rfl (wa_cons (we_var (i := 0) rfl (.inl rfl) rfl (wa_cons (we_var (i := 7) rfl (.inl rfl) rfl (wa_nil ((callee0 fun R Z hR hZ => ⟨(_, _), (_, _), rfl, ⟨by walk_at "s_sm", by walk_at "s_sm", by walk_at "s_sm", by walk_at "s_sm"⟩, hR _ _ (⟨_, rfl, br_not (br_decF (by exact hnb) (ww_and1 (wt_ww (ww_or (wt_isN (we_var (i := 2) rfl (.inl rfl) rfl (br_t (br_t (?_)))))))))⟩)⟩))))))))))))
            refine wss_cons (ws_asg (i := 2) rfl (.inl rfl) (we_var (i := 7) rfl (.inl rfl) rfl (?_)))
            exact wss_nil ⟨some c, rfl, rfl, fun f hf => by cases hf; exact hred, .inr ⟨_, rfl, Lo.first (by omega) hdn2 (by omega) hc, by omega, hB.1, hB.2⟩⟩
          · have hb := hf.bk
            have hb1 := hf.b1
            have hst := hf.step (c := c) (by omega) (by omega) hdn2 (by omega) (by omega) hc
            refine ws_if (wt_ww (ww_and (wt_not (wt_val (we_call D_l_below (Nat.le_of_ble_eq_true rfl) rfl (wa_cons (we_var (i := 0) rfl (.inl rfl) rfl (wa_cons (we_var (i := 7) rfl (.inl rfl) rfl (wa_nil ((callee0 fun R Z hR hZ => ⟨(_, _), (_, _), rfl, ⟨by walk_at "s_sm", by walk_at "s_sm", by walk_at "s_sm", by walk_at "s_sm"⟩, hR _ _ (⟨_, rfl, br_not (br_decF (by exact hnb) (ww_and1 (wt_ww (ww_or (wt_isN (we_var (i := 2) rfl (.inl rfl) rfl (br_f (ww_or1 (wt_val (we_call D_l_below (Nat.le_of_ble_eq_true rfl) rfl (wa_cons (we_var (i := 2) rfl (.inl rfl) rfl (wa_cons (we_var (i := 7) rfl (.inl rfl) rfl (wa_nil ((callee0 fun R Z hR hZ => ⟨(_, _), (_, _), rfl, ⟨by walk_at "s_sm", by walk_at "s_sm", by walk_at "s_sm", by walk_at "s_sm"⟩, hR _ _ (⟨_, rfl, br_dec (fun h67 => ?_) (fun h67 => ?_)⟩)⟩)))))))))))))))))⟩)⟩))))))))))))
            · refine wss_cons (ws_asg (i := 2) rfl (.inl rfl) (we_var (i := 7) rfl (.inl rfl) rfl (?_)))
              rw [if_pos h67] at hst
              exact wss_nil ⟨some c, rfl, rfl, fun f hf => by cases hf; exact hred, .inr ⟨_, rfl, hst, by omega, hB.1, hB.2⟩⟩
            · rw [if_neg h67] at hst
              exact wss_nil ⟨some f, rfl, rfl, rl, .inr ⟨_, rfl, hst, by omega, h1, h2⟩⟩
        · rintro Γ4 M4 ⟨l, rfl, rfl, rl, hl2⟩
          refine wss_cons ?_
          by_cases hex : p * ((k2 : Int) + 1) ≤ t * q
          · have hnb2 : ¬ Below c (p, q) := by
              unfold Below
              have := (hcmp.2).mpr (by rw [e1]; exact hex)
              simp only
              omega
            have hup2 : ∀ x, p * ((k2 : Int) + 1) ≤ x * q ↔ t ≤ x := fun x => by
              constructor
              · intro h
                exact mul_le_of_pos (c := q) (by omega) (Int.le_trans hle h)
              · intro h
                exact Int.le_trans hex (Int.mul_le_mul_of_nonneg_right h (by omega))
            rcases hu with ⟨e0, rfl⟩ | ⟨f, rfl, hf, h0, h1, h2⟩
            · have e0' : k2 = 0 := by omega
              subst e0'
              refine ws_if (wt_ww (ww_and (wt_not (wt_val (we_call D_l_below (Nat.le_of_ble_eq_true rfl) rfl (wa_cons (we_var (i := 7) rfl (.inl rfl) rfl (wa_cons (we_var (i := 0) rfl (.inl rfl) rfl (wa_nil ((callee0 fun R Z hR hZ => ⟨(_, _), (_, _), rfl, ⟨by walk_at "s_sm", by walk_at "s_sm", by walk_at "s_sm", by walk_at "s_sm"⟩, hR _ _ (⟨_, rfl, br_not (br_decF (by exact hnb2) (ww_and1 (wt_ww (ww_or (wt_isN (we_var (i := 3) rfl (.inl rfl) rfl (br_t (br_t (?_)))))))))⟩)⟩))))))))))))
              refine wss_cons (ws_asg (i := 3) rfl (.inl rfl) (we_var (i := 7) rfl (.inl rfl) rfl (?_)))
              exact wss_nil (wss_nil ⟨l, some c, _, _, rfl, rfl, rl, fun f hf => by cases hf; exact hred, .inr (.inl ⟨rfl, hl2, .inl ⟨hex, .inr ⟨_, rfl, Up.first (by omega) hup2 (by omega) hc, by omega, hB.1, hB.2⟩⟩⟩)⟩)
            · have hb := hf.bk
              have hb1 := hf.b1
              have hst := hf.step (c := c) (by omega) (by omega) hup2 (by omega) (by omega) hc
              refine ws_if (wt_ww (ww_and (wt_not (wt_val (we_call D_l_below (Nat.le_of_ble_eq_true rfl) rfl (wa_cons (we_var (i := 7) rfl (.inl rfl) rfl (wa_cons (we_var (i := 0) rfl (.inl rfl) rfl (wa_nil ((callee0 fun R Z hR hZ => ⟨(_, _), (_, _), rfl, ⟨by walk_at "s_sm", by walk_at "s_sm", by walk_at "s_sm", by walk_at "s_sm"⟩, hR _ _ (⟨_, rfl, br_not (br_decF (by exact hnb2) (ww_and1 (wt_ww (ww_or (wt_isN (we_var (i := 3) rfl (.inl rfl) rfl (br_f (ww_or1 (wt_val (we_call D_l_below (Nat.le_of_ble_eq_true rfl) rfl (wa_cons (we_var (i := 7) rfl (.inl rfl) rfl (wa_cons (we_var (i := 3) rfl (.inl rfl) rfl (wa_nil ((callee0 fun R Z hR hZ => ⟨(_, _), (_, _), rfl, ⟨by walk_at "s_sm", by walk_at "s_sm", by walk_at "s_sm", by walk_at "s_sm"⟩, hR _ _ (⟨_, rfl, br_dec (fun h69 => ?_) (fun h69 => ?_)⟩)⟩)))))))))))))))))⟩)⟩))))))))))))
              · refine wss_cons (ws_asg (i := 3) rfl (.inl rfl) (we_var (i := 7) rfl (.inl rfl) rfl (?_)))
                rw [if_pos h69] at hst
                exact wss_nil (wss_nil ⟨l, some c, _, _, rfl, rfl, rl, fun f hf => by cases hf; exact hred, .inr (.inl ⟨rfl, hl2, .inl ⟨hex, .inr ⟨_, rfl, hst, by omega, hB.1, hB.2⟩⟩⟩)⟩)
              · rw [if_neg h69] at hst
                exact wss_nil (wss_nil ⟨l, some f, _, _, rfl, rfl, rl, ru, .inr (.inl ⟨rfl, hl2, .inl ⟨hex, .inr ⟨_, rfl, hst, by omega, h1, h2⟩⟩⟩)⟩)
          · have hnb2 : Below c (p, q) := by
              unfold Below
              have : ¬ p * c.2 ≤ c.1 * q := fun z => hex (by have := (hcmp.2).mp z; rw [e1] at this; exact this)
              simp only
              omega
            refine ws_if (wt_ww (ww_and (wt_not (wt_val (we_call D_l_below (Nat.le_of_ble_eq_true rfl) rfl (wa_cons (we_var (i := 7) rfl (.inl rfl) rfl (wa_cons (we_var (i := 0) rfl (.inl rfl) rfl (wa_nil ((callee0 fun R Z hR hZ => ⟨(_, _), (_, _), rfl, ⟨by walk_at "s_sm", by walk_at "s_sm", by walk_at "s_sm", by walk_at "s_sm"⟩, hR _ _ (⟨_, rfl, br_not (br_decT (by exact hnb2) (br_f (?_)))⟩)⟩))))))))))))
            exact wss_nil (wss_nil ⟨l, u, _, _, rfl, rfl, rl, ru, .inr (.inl ⟨rfl, hl2, .inr ⟨hex, hu⟩⟩)⟩)
      · -- one more
        have et : t = dn + 1 := by simp at e; exact e.1.symm
        subst et
        have hgt : ¬ (dn + 1) * q ≤ p * ((k2 : Int) + 1) := fun z => by have := (hdn2 _).mp z; omega
        have hb3 : Below (p, q) c := by
          unfold Below
          have : ¬ c.1 * q ≤ p * c.2 := fun z => hgt (by have := (hcmp.1).mp z; rw [e1] at this; exact this)
          simp only
          omega
        have hnb2 : ¬ Below c (p, q) := by
          unfold Below at hb3 ⊢
          simp only at hb3 ⊢
          omega
        refine wss_cons (ws_if (wt_ww (ww_and (wt_not (wt_val (we_call D_l_below (Nat.le_of_ble_eq_true rfl) rfl (wa_cons (we_var (i := 0) rfl (.inl rfl) rfl (wa_cons (we_var (i := 7) rfl (.inl rfl) rfl (wa_nil ((callee0 fun R Z hR hZ => ⟨(_, _), (_, _), rfl, ⟨by walk_at "s_sm", by walk_at "s_sm", by walk_at "s_sm", by walk_at "s_sm"⟩, hR _ _ (⟨_, rfl, br_not (br_decT (by exact hb3) (br_f (?_)))⟩)⟩)))))))))))))
        refine wss_nil ?_
        refine wss_cons ?_
        rcases hu with ⟨hex, hu⟩ | ⟨hex, hu⟩
        · rcases hu with ⟨e0, rfl⟩ | ⟨f, rfl, hf, h0, h1, h2⟩
          · omega
          · have hb := hf.bk
            have hb1 := hf.b1
            have hno : ¬ Below c f := by
              unfold Below
              have := hf.mx c.1 c.2 (by omega) (by omega) (by have := (hcmp.2).mpr (by rw [e1]; omega); exact this)
              omega
            refine ws_if (wt_ww (ww_and (wt_not (wt_val (we_call D_l_below (Nat.le_of_ble_eq_true rfl) rfl (wa_cons (we_var (i := 7) rfl (.inl rfl) rfl (wa_cons (we_var (i := 0) rfl (.inl rfl) rfl (wa_nil ((callee0 fun R Z hR hZ => ⟨(_, _), (_, _), rfl, ⟨by walk_at "s_sm", by walk_at "s_sm", by walk_at "s_sm", by walk_at "s_sm"⟩, hR _ _ (⟨_, rfl, br_not (br_decF (by exact hnb2) (ww_and1 (wt_ww (ww_or (wt_isN (we_var (i := 3) rfl (.inl rfl) rfl (br_f (ww_or1 (wt_val (we_call D_l_below (Nat.le_of_ble_eq_true rfl) rfl (wa_cons (we_var (i := 7) rfl (.inl rfl) rfl (wa_cons (we_var (i := 3) rfl (.inl rfl) rfl (wa_nil ((callee0 fun R Z hR hZ => ⟨(_, _), (_, _), rfl, ⟨by walk_at "s_sm", by walk_at "s_sm", by walk_at "s_sm", by walk_at "s_sm"⟩, hR _ _ (⟨_, rfl, br_decF (by exact hno) (?_)⟩)⟩)))))))))))))))))⟩)⟩))))))))))))
            exact wss_nil (wss_nil ⟨l, some f, _, _, rfl, rfl, rl, ru, .inr (.inr ⟨rfl, hl, .inr ⟨_, rfl, hf, by omega, h1, h2⟩⟩)⟩)
        · have hup2 : ∀ x, p * ((k2 : Int) + 1) ≤ x * q ↔ dn + 1 ≤ x := fun x => by
            constructor
            · intro h
              rcases Int.lt_or_le dn x with z | z
              · omega
              · exact absurd (Int.le_trans h (Int.mul_le_mul_of_nonneg_right z (by omega))) hex
            · intro h
              have := Int.mul_le_mul_of_nonneg_right h (show 0 ≤ q by omega)
              omega
          rcases hu with ⟨e0, rfl⟩ | ⟨f, rfl, hf, h0, h1, h2⟩
          · have e0' : k2 = 0 := by omega
            subst e0'
            refine ws_if (wt_ww (ww_and (wt_not (wt_val (we_call D_l_below (Nat.le_of_ble_eq_true rfl) rfl (wa_cons (we_var (i := 7) rfl (.inl rfl) rfl (wa_cons (we_var (i := 0) rfl (.inl rfl) rfl (wa_nil ((callee0 fun R Z hR hZ => ⟨(_, _), (_, _), rfl, ⟨by walk_at "s_sm", by walk_at "s_sm", by walk_at "s_sm", by walk_at "s_sm"⟩, hR _ _ (⟨_, rfl, br_not (br_decF (by exact hnb2) (ww_and1 (wt_ww (ww_or (wt_isN (we_var (i := 3) rfl (.inl rfl) rfl (br_t (br_t (?_)))))))))⟩)⟩))))))))))))
            refine wss_cons (ws_asg (i := 3) rfl (.inl rfl) (we_var (i := 7) rfl (.inl rfl) rfl (?_)))
            exact wss_nil (wss_nil ⟨l, some c, _, _, rfl, rfl, rl, fun f hf => by cases hf; exact hred, .inr (.inr ⟨rfl, hl, .inr ⟨_, rfl, Up.first (by omega) hup2 (by omega) hc, by omega, hB.1, hB.2⟩⟩)⟩)
          · have hb := hf.bk
            have hb1 := hf.b1
            have hst := hf.step (c := c) (by omega) (by omega) hup2 (by omega) (by omega) hc
            refine ws_if (wt_ww (ww_and (wt_not (wt_val (we_call D_l_below (Nat.le_of_ble_eq_true rfl) rfl (wa_cons (we_var (i := 7) rfl (.inl rfl) rfl (wa_cons (we_var (i := 0) rfl (.inl rfl) rfl (wa_nil ((callee0 fun R Z hR hZ => ⟨(_, _), (_, _), rfl, ⟨by walk_at "s_sm", by walk_at "s_sm", by walk_at "s_sm", by walk_at "s_sm"⟩, hR _ _ (⟨_, rfl, br_not (br_decF (by exact hnb2) (ww_and1 (wt_ww (ww_or (wt_isN (we_var (i := 3) rfl (.inl rfl) rfl (br_f (ww_or1 (wt_val (we_call D_l_below (Nat.le_of_ble_eq_true rfl) rfl (wa_cons (we_var (i := 7) rfl (.inl rfl) rfl (wa_cons (we_var (i := 3) rfl (.inl rfl) rfl (wa_nil ((callee0 fun R Z hR hZ => ⟨(_, _), (_, _), rfl, ⟨by walk_at "s_sm", by walk_at "s_sm", by walk_at "s_sm", by walk_at "s_sm"⟩, hR _ _ (⟨_, rfl, br_dec (fun h69 => ?_) (fun h69 => ?_)⟩)⟩)))))))))))))))))⟩)⟩))))))))))))
            · refine wss_cons (ws_asg (i := 3) rfl (.inl rfl) (we_var (i := 7) rfl (.inl rfl) rfl (?_)))
              rw [if_pos h69] at hst
              exact wss_nil (wss_nil ⟨l, some c, _, _, rfl, rfl, rl, fun f hf => by cases hf; exact hred, .inr (.inr ⟨rfl, hl, .inr ⟨_, rfl, hst, by omega, hB.1, hB.2⟩⟩)⟩)
            · rw [if_neg h69] at hst
              exact wss_nil (wss_nil ⟨l, some f, _, _, rfl, rfl, rl, ru, .inr (.inr ⟨rfl, hl, .inr ⟨_, rfl, hst, by omega, h1, h2⟩⟩)⟩)
      · have := congrArg List.length e
        simp at this
    · rintro Γ3 M3 ⟨l, u, c3, c4, rfl, rfl, rl, ru, hpre⟩
      rcases hpre with ⟨h, _⟩ | ⟨h, _⟩ | ⟨_, hl, hu⟩
      · cases h
      · simp at h
      · exact wss_nil ⟨l, u, _, _, _, _, rfl, rfl, hl, hu, rl, ru⟩
  · rintro Γ2 M2 ⟨l, u, c1, c2, c3, c4, rfl, rfl, hl, hu, rl, ru⟩
    have ek : ((n + 1 - 1).toNat : Int) = n := by omega
    rw [ek] at hl hu
    rcases hl with ⟨e0, _⟩ | ⟨f, rfl, hf, _, f1, f2⟩
    · omega
    rcases hu with ⟨e0, _⟩ | ⟨g, rfl, hg, _, g1, g2⟩
    · omega
    refine wss_cons (ws_ret (we_tup (wa_cons (we_var (i := 2) rfl (.inl rfl) rfl (wa_cons (we_var (i := 3) rfl (.inl rfl) rfl (wa_nil (⟨Nat.le_of_ble_eq_true rfl, ?_⟩))))))))
    exact k f g hf hg (rl _ rfl) (ru _ rfl)
theorem callNb {c : PL.Ctx} {Γ : Gam} {p q n : Int} {l u : Int × Int} {M : Cells} {Q : D → Cells → Prop} (hq : 1 ≤ q ∧ q ≤ 10 ^ 31) (hp : -(10 ^ 61) ≤ p ∧ p ≤ 10 ^ 61) (hn : 1 ≤ n ∧ n ≤ 1000) (hl : Lo p q n l) (hu : Up p q n u) (rl : Red l) (ru : Red u) (h : Q (.tup [fr l, fr u]) M) :
    Callee c pfNb Γ [fr (p, q), .int n] M Q := callee0 fun R Z hR _ => ⟨p, q, n, rfl, hq, hp, hn, fun l1 u1 hl1 hu1 => hR _ _ (by
  rw [low_eq (by have := hl1.b1; omega) rl.1 (hl1.same hl), rl.2, low_eq (by have := hu1.b1; omega) ru.1 (hu1.same hu), ru.2]
  exact h)⟩
theorem eqv_sides (l u : Int × Int) : (D.tup [fr l, fr u]).eqv (.tup [fr l, fr u]) = true := by
  simp [D.eqv, D.py, D.pys, fr, PyData.eqv, PyData.eqvAll]
theorem IsBag.mono {T T' : Int} {a : Addr} {M : Cells} (h : IsBag T a M) (ht : T ≤ T') : IsBag T' a M := by
  obtain ⟨g, gr, l, t, f, e, h1, h2, h3, h4, h5⟩ := h
  exact ⟨g, gr, l, t, f, e, h1, h2, h3, ⟨h4.1, by omega⟩, h5⟩
theorem callDraw {c : PL.Ctx} {Γ : Gam} {a : Addr} {many T : Int} {M : Cells} {Q : D → Cells → Prop} (hB : IsBag T a M) (hm : 0 < many) (hs : Sm many) (hT : T < 1000000000)
    (h : ∀ r M', 0 ≤ r → r < many → IsBag (T + 1) a M' → Q (.int r) M') : Callee c pfDraw Γ [.ptr a, .int many] M Q :=
  callee0 fun R Z hR _ => ⟨a, many, T, rfl, hB, ⟨hm, hs⟩, hT, fun r M' h1 h2 h3 => hR _ _ (h r M' h1 h2 h3)⟩
def pfLaw : PF := fun ds M R _ => ∃ ns : List Int, ds = [.lst (ns.map D.int)] ∧ ns.length ≤ 63 ∧ M = [] ∧ ∀ M', R (.bl true) M'
theorem ok_law {f fd f1 fd1 f2 fd2 f3 fd3 f4 fd4 f5 fd5} (F : Fun K "law" "law" s_law f fd) (m_range : mg "range" = none) (m_min : mg "min" = none) (m_len : mg "len" = none)
    (D_bag : Def P w K mg base "_law_bag" f1 fd1 ["script"] 1 pfBag) (D_draw : Def P w K mg base "_law_draw" f2 fd2 ["bag", "many"] 1 pfDraw) (D_l_lowest : Def P w K mg base "_law_lowest" f3 fd3 ["top", "under"] 2 pfLowest)
    (D_l_sides : Def P w K mg base "_law_sides" f4 fd4 ["pace", "most"] 3 pfSides) (D_nb : Def P w K mg base "neighbours" f5 fd5 ["fraction", "bottom"] 3 pfNb) (B_nb : KwB K fd5 ["fraction", "bottom"] ["bottom", "fraction"] [1, 0]) :
    FnOk P w K mg base (L2.CX P w) 4 f fd ["script"] (liftF K pfLaw) := by
  refine fn_mk F sc_law (fun ds M R Z ⟨ns, e, _⟩ => by subst e; rfl) ?_
  rintro ds M R Z ⟨ns, rfl, hl, rfl, q⟩
  refine wss_cons (ws_asg (i := 1) rfl (.inl rfl) (we_call D_bag (Nat.le_of_ble_eq_true rfl) rfl (wa_cons (we_var (i := 0) rfl (.inl rfl) rfl (wa_nil (?_))))))
  refine callee0 fun R Z hR hZ => ⟨ns, rfl, hl, rfl, fun a M' hB => hR _ _ ?_⟩
  refine wss_cons (ws_forR (i := 2) rfl m_range rfl (.inl rfl) (fun k Γ1 M1 => ∃ (c2 c3 c4 c5 c6 c7 : Option D), Γ1 = [some (.lst (ns.map D.int)), some (.ptr a), c2, c3, c4, c5, c6, c7] ∧ IsBag (100 * k) a M1)
    (we_add (we_int (we_min2 rfl (by walk_at "s_mg") (we_int (we_len rfl (by walk_at "s_mg") (we_var (i := 0) rfl (.inl rfl) rfl (⟨_, .inl .self, ⟨_, _, rfl, rfl, ⟨_, _, rfl, rfl, ⟨_, rfl, ?_⟩⟩⟩⟩))))))))
  refine ⟨by omega, by rw [List.length_map]; split <;> omega, ⟨_, _, _, _, _, _, rfl, hB⟩, ?_, ?_⟩
  · rintro k Γ2 M2 hk ⟨c2, c3, c4, c5, c6, c7, rfl, hB0⟩
    have hk' : (k : Int) < 100 := by rw [List.length_map] at hk; split at hk <;> omega
    refine wss_cons (ws_asg (i := 3) rfl (.inl rfl) (we_mul (we_call D_draw (Nat.le_of_ble_eq_true rfl) rfl (wa_cons (we_var (i := 1) rfl (.inl rfl) rfl (wa_cons (we_ixI (P := fun v => 0 < v ∧ v ≤ 10 ^ 59) (we_tup (wa_cons (we_int (wa_cons (we_powK (v := 100000000000000000000000000000000000000000000000000000000000) ⟨by decide, by decide, by decide⟩ (by decide +kernel) (wa_nil (⟨Nat.le_of_ble_eq_true rfl, we_div (we_call D_draw (Nat.le_of_ble_eq_true rfl) rfl (wa_cons (we_var (i := 1) rfl (.inl rfl) rfl (wa_cons (we_int (wa_nil ((callDraw hB0 (by omega) (by walk_at "s_sm") (by omega) fun r1 M1 hr1 hs1 hB1 => we_int (⟨_, _, rfl, rfl, (by walk_at "s_div"), ⟨[_, _], _, rfl, rfl, by simp only [List.length_cons, List.length_nil]; omega, by walk_at "s_mem", fun v3 hv3 => wa_nil ((callDraw hB1 (by omega) (by walk_at "s_sm") (by omega) fun r2 M2 hr2 hs2 hB2 => we_ixI (P := fun v => v = 1 ∨ v = -1) (we_tup (wa_cons (we_int (wa_cons (we_neg (we_int (⟨_, rfl, wa_nil (⟨Nat.le_of_ble_eq_true rfl, we_call D_draw (Nat.le_of_ble_eq_true rfl) rfl (wa_cons (we_var (i := 1) rfl (.inl rfl) rfl (wa_cons (we_int (wa_nil ((callDraw hB2 (by omega) (by walk_at "s_sm") (by omega) fun r3 M3 hr3 hs3 hB3 => ⟨[_, _], _, rfl, rfl, by simp only [List.length_cons, List.length_nil]; omega, by walk_at "s_mem", fun v4 hv4 => ⟨_, _, rfl, rfl, (by walk_at "s_mul"), ?_⟩⟩)))))))⟩)⟩)))))))))⟩⟩)))))))))⟩))))))))))))))
    refine wss_cons (ws_asg (i := 4) rfl (.inl rfl) (we_add (we_int (we_call D_draw (Nat.le_of_ble_eq_true rfl) rfl (wa_cons (we_var (i := 1) rfl (.inl rfl) rfl (wa_cons (we_ixI (P := fun v => 0 < v ∧ v ≤ 10 ^ 29) (we_tup (wa_cons (we_int (wa_cons (we_powK (v := 100000000000000000000000000000) ⟨by decide, by decide, by decide⟩ (by decide +kernel) (wa_nil (⟨Nat.le_of_ble_eq_true rfl, we_div (we_call D_draw (Nat.le_of_ble_eq_true rfl) rfl (wa_cons (we_var (i := 1) rfl (.inl rfl) rfl (wa_cons (we_int (wa_nil ((callDraw hB3 (by omega) (by walk_at "s_sm") (by omega) fun r4 M4 hr4 hs4 hB4 => we_int (⟨_, _, rfl, rfl, (by walk_at "s_div"), ⟨[_, _], _, rfl, rfl, by simp only [List.length_cons, List.length_nil]; omega, by walk_at "s_mem", fun v5 hv5 => wa_nil ((callDraw hB4 (by omega) (by walk_at "s_sm") (by omega) fun r5 M5 hr5 hs5 hB5 => ⟨_, _, rfl, rfl, ?_⟩))⟩⟩)))))))))⟩)))))))))))))))
    have ht : -(10 ^ 59) ≤ r2 * v4 ∧ r2 * v4 ≤ 10 ^ 59 := by
      rcases hv4 with rfl | rfl <;> omega
    generalize r2 * v4 = top at *
    refine wss_cons (ws_asg (i := 5) rfl (.inl rfl) (we_call D_l_lowest (Nat.le_of_ble_eq_true rfl) rfl (wa_cons (we_var (i := 3) rfl (.inl rfl) rfl (wa_cons (we_var (i := 4) rfl (.inl rfl) rfl (wa_nil ((callee0 fun R Z hR hZ => ⟨_, _, rfl, by omega, by walk_at "s_sm", hR _ _ (?_)⟩)))))))))
    have hlv := low_val (a := top) (b := 1 + r5) (by omega)
    have hg := gcd_pos (a := top) (b := 1 + r5) (by omega)
    have hdb : -(10 ^ 59) ≤ (low top (1 + r5)).1 ∧ (low top (1 + r5)).1 ≤ 10 ^ 59 := divB ht (by omega)
    generalize low top (1 + r5) = pace at *
    obtain ⟨p, d⟩ := pace
    simp only at hlv hdb
    refine wss_cons (ws_asg (i := 6) rfl (.inl rfl) (we_add (we_int (we_call D_draw (Nat.le_of_ble_eq_true rfl) rfl (wa_cons (we_var (i := 1) rfl (.inl rfl) rfl (wa_cons (we_ixI (P := fun v => 0 < v ∧ v ≤ 150) (we_tup (wa_cons (we_int (wa_cons (we_int (wa_cons (we_int (wa_nil (⟨Nat.le_of_ble_eq_true rfl, we_call D_draw (Nat.le_of_ble_eq_true rfl) rfl (wa_cons (we_var (i := 1) rfl (.inl rfl) rfl (wa_cons (we_int (wa_nil ((callDraw hB5 (by omega) (by walk_at "s_sm") (by omega) fun r6 M6 hr6 hs6 hB6 => ⟨[_, _, _], _, rfl, rfl, by simp only [List.length_cons, List.length_nil]; omega, by walk_at "s_mem", fun v6 hv6 => wa_nil ((callDraw hB6 (by omega) (by walk_at "s_sm") (by omega) fun r7 M7 hr7 hs7 hB7 => ⟨_, _, rfl, rfl, ?_⟩))⟩)))))))⟩)))))))))))))))))
    refine wss_cons (ws_asg (i := 7) rfl (.inl rfl) (we_call D_l_sides (Nat.le_of_ble_eq_true rfl) rfl (wa_cons (we_var (i := 5) rfl (.inl rfl) rfl (wa_cons (we_var (i := 6) rfl (.inl rfl) rfl (wa_nil (?_))))))))
    refine callee0 fun R Z hR hZ => ⟨p, d, _, rfl, by omega, by omega, by omega, fun l u hl hu rl ru => hR _ _ ?_⟩
    refine wss_cons (ws_if (wt_ww (ww_or (wt_ne (we_call D_nb (Nat.le_of_ble_eq_true rfl) rfl (wa_cons (we_var (i := 5) rfl (.inl rfl) rfl (wa_cons (we_var (i := 6) rfl (.inl rfl) rfl (wa_nil ((callNb (by omega) (by omega) (by omega) hl hu rl ru (we_var (i := 7) rfl (.inl rfl) rfl (⟨_, _, .self, .self, by walk_at "s_okd", by walk_at "s_okd", br_nkF (eqv_sides l u) (ww_or1 (wt_ne (we_callK0 D_nb B_nb (Nat.le_of_ble_eq_true rfl) rfl rfl (wk_cons (we_var (i := 6) rfl (.inl rfl) rfl (wk_cons (we_var (i := 5) rfl (.inl rfl) rfl (wk_nil ⟨rfl, (callNb (by omega) (by omega) (by omega) hl hu rl ru (we_var (i := 7) rfl (.inl rfl) rfl (⟨_, _, .self, .self, by walk_at "s_okd", by walk_at "s_okd", br_nkF (eqv_sides l u) (?_)⟩)))⟩))))))))⟩))))))))))))))
    exact wss_nil (wss_nil ⟨_, _, _, _, _, _, rfl, hB7.mono (by omega)⟩)
  · rintro Γ2 M2 ⟨c2, c3, c4, c5, c6, c7, rfl, hB⟩
    refine wss_cons (ws_ret (we_bl (?_)))
    exact q _
theorem law_start {H : Hp} {a : Addr} {ns : List Int} (hl : ns.length ≤ 63) (hS : SqL K H a (ns.map V.int)) : liftF K pfLaw [.ref a] H (fun v _ => v = .bl true) (fun _ _ _ => False) := by
  refine ⟨fun _ => False, [], [.lst (ns.map D.int)], ⟨fun _ z => z.elim, List.nodup_nil, fun _ z => (by cases z), fun _ z => (by cases z)⟩, .cons (.lst ?_ (Reps.of_ints ns)) .nil, ns, rfl, hl, rfl, fun M' v H' _ _ r => by cases r; rfl⟩
  rcases hS with h | h
  · exact .inl ⟨fun z => (by rcases z with z | z <;> cases z), h⟩
  · exact .inr h
end
theorem all_mk {l : PySem.W.OpenLaw} {w : World} {K : PySem.W.Frag} {h : Heap} {mg : Str → Option Value} {fa : Addr} (X : K.In h) (G : h.Ns mainGlobals mg) (hfa : mg "law" = some (.ref fa))
    {f_bag f_draw f_gcd f_lowest f_below f_nb f_ldiv f_llow f_lbel f_lsid f_law : Addr} {od_bag an_bag od_draw an_draw od_gcd an_gcd od_lowest an_lowest od_below an_below od_nb an_nb od_ldiv an_ldiv od_llow an_llow od_lbel an_lbel od_lsid an_lsid od_law an_law : Option Addr} {sl_bag sl_draw sl_gcd sl_lowest sl_below sl_nb sl_ldiv sl_llow sl_lbel sl_lsid sl_law : Array (Option Value)} {oc_bag kV_bag dc_bag pm_bag cd_bag ct_bag oc_draw kV_draw dc_draw pm_draw cd_draw ct_draw oc_gcd kV_gcd dc_gcd pm_gcd cd_gcd ct_gcd oc_lowest kV_lowest dc_lowest pm_lowest cd_lowest ct_lowest oc_below kV_below dc_below pm_below cd_below ct_below oc_nb kV_nb dc_nb pm_nb cd_nb ct_nb oc_ldiv kV_ldiv dc_ldiv pm_ldiv cd_ldiv ct_ldiv oc_llow kV_llow dc_llow pm_llow cd_llow ct_llow oc_lbel kV_lbel dc_lbel pm_lbel cd_lbel ct_lbel oc_lsid kV_lsid dc_lsid pm_lsid cd_lsid ct_lsid oc_law kV_law dc_law pm_law cd_law ct_law : Value}
    (a_bag : PySem.W.nsIn K mainGlobals "_law_bag" = some (some (.ref f_bag))) (l_bag : K.lookup f_bag = some ⟨oc_bag, od_bag, .func (PySem.W.fnOf "_law_bag" "_law_bag" (defArgs s_bag) (defBody s_bag) (defScope s_bag) .none kV_bag dc_bag pm_bag an_bag cd_bag ct_bag), sl_bag⟩) (c_bag : PySem.W.codeIn K cd_bag "_law_bag" = true) (k_bag : PySem.W.keepIn K (.ref f_bag) = true)
    (a_draw : PySem.W.nsIn K mainGlobals "_law_draw" = some (some (.ref f_draw))) (l_draw : K.lookup f_draw = some ⟨oc_draw, od_draw, .func (PySem.W.fnOf "_law_draw" "_law_draw" (defArgs s_draw) (defBody s_draw) (defScope s_draw) .none kV_draw dc_draw pm_draw an_draw cd_draw ct_draw), sl_draw⟩) (c_draw : PySem.W.codeIn K cd_draw "_law_draw" = true) (k_draw : PySem.W.keepIn K (.ref f_draw) = true)
    (a_gcd : PySem.W.nsIn K mainGlobals "greatest_divisor" = some (some (.ref f_gcd))) (l_gcd : K.lookup f_gcd = some ⟨oc_gcd, od_gcd, .func (PySem.W.fnOf "greatest_divisor" "greatest_divisor" (defArgs s_gcd) (defBody s_gcd) (defScope s_gcd) .none kV_gcd dc_gcd pm_gcd an_gcd cd_gcd ct_gcd), sl_gcd⟩) (c_gcd : PySem.W.codeIn K cd_gcd "greatest_divisor" = true) (k_gcd : PySem.W.keepIn K (.ref f_gcd) = true)
    (a_lowest : PySem.W.nsIn K mainGlobals "lowest" = some (some (.ref f_lowest))) (l_lowest : K.lookup f_lowest = some ⟨oc_lowest, od_lowest, .func (PySem.W.fnOf "lowest" "lowest" (defArgs s_lowest) (defBody s_lowest) (defScope s_lowest) .none kV_lowest dc_lowest pm_lowest an_lowest cd_lowest ct_lowest), sl_lowest⟩) (c_lowest : PySem.W.codeIn K cd_lowest "lowest" = true) (k_lowest : PySem.W.keepIn K (.ref f_lowest) = true)
    (a_below : PySem.W.nsIn K mainGlobals "is_below" = some (some (.ref f_below))) (l_below : K.lookup f_below = some ⟨oc_below, od_below, .func (PySem.W.fnOf "is_below" "is_below" (defArgs s_below) (defBody s_below) (defScope s_below) .none kV_below dc_below pm_below an_below cd_below ct_below), sl_below⟩) (c_below : PySem.W.codeIn K cd_below "is_below" = true) (k_below : PySem.W.keepIn K (.ref f_below) = true)
    (a_nb : PySem.W.nsIn K mainGlobals "neighbours" = some (some (.ref f_nb))) (l_nb : K.lookup f_nb = some ⟨oc_nb, od_nb, .func (PySem.W.fnOf "neighbours" "neighbours" (defArgs s_nb) (defBody s_nb) (defScope s_nb) .none kV_nb dc_nb pm_nb an_nb cd_nb ct_nb), sl_nb⟩) (c_nb : PySem.W.codeIn K cd_nb "neighbours" = true) (k_nb : PySem.W.keepIn K (.ref f_nb) = true)
    (a_ldiv : PySem.W.nsIn K mainGlobals "_law_divisor" = some (some (.ref f_ldiv))) (l_ldiv : K.lookup f_ldiv = some ⟨oc_ldiv, od_ldiv, .func (PySem.W.fnOf "_law_divisor" "_law_divisor" (defArgs s_ldiv) (defBody s_ldiv) (defScope s_ldiv) .none kV_ldiv dc_ldiv pm_ldiv an_ldiv cd_ldiv ct_ldiv), sl_ldiv⟩) (c_ldiv : PySem.W.codeIn K cd_ldiv "_law_divisor" = true) (k_ldiv : PySem.W.keepIn K (.ref f_ldiv) = true)
    (a_llow : PySem.W.nsIn K mainGlobals "_law_lowest" = some (some (.ref f_llow))) (l_llow : K.lookup f_llow = some ⟨oc_llow, od_llow, .func (PySem.W.fnOf "_law_lowest" "_law_lowest" (defArgs s_llow) (defBody s_llow) (defScope s_llow) .none kV_llow dc_llow pm_llow an_llow cd_llow ct_llow), sl_llow⟩) (c_llow : PySem.W.codeIn K cd_llow "_law_lowest" = true) (k_llow : PySem.W.keepIn K (.ref f_llow) = true)
    (a_lbel : PySem.W.nsIn K mainGlobals "_law_below" = some (some (.ref f_lbel))) (l_lbel : K.lookup f_lbel = some ⟨oc_lbel, od_lbel, .func (PySem.W.fnOf "_law_below" "_law_below" (defArgs s_lbel) (defBody s_lbel) (defScope s_lbel) .none kV_lbel dc_lbel pm_lbel an_lbel cd_lbel ct_lbel), sl_lbel⟩) (c_lbel : PySem.W.codeIn K cd_lbel "_law_below" = true) (k_lbel : PySem.W.keepIn K (.ref f_lbel) = true)
    (a_lsid : PySem.W.nsIn K mainGlobals "_law_sides" = some (some (.ref f_lsid))) (l_lsid : K.lookup f_lsid = some ⟨oc_lsid, od_lsid, .func (PySem.W.fnOf "_law_sides" "_law_sides" (defArgs s_lsid) (defBody s_lsid) (defScope s_lsid) .none kV_lsid dc_lsid pm_lsid an_lsid cd_lsid ct_lsid), sl_lsid⟩) (c_lsid : PySem.W.codeIn K cd_lsid "_law_sides" = true) (k_lsid : PySem.W.keepIn K (.ref f_lsid) = true)
    (a_law : PySem.W.nsIn K mainGlobals "law" = some (some (.ref f_law))) (l_law : K.lookup f_law = some ⟨oc_law, od_law, .func (PySem.W.fnOf "law" "law" (defArgs s_law) (defBody s_law) (defScope s_law) .none kV_law dc_law pm_law an_law cd_law ct_law), sl_law⟩) (c_law : PySem.W.codeIn K cd_law "law" = true) (k_law : PySem.W.keepIn K (.ref f_law) = true)
    (y_abs : PySem.W.nsIn K mainGlobals "abs" = some none)
    (y_len : PySem.W.nsIn K mainGlobals "len" = some none)
    (y_min : PySem.W.nsIn K mainGlobals "min" = some none)
    (y_range : PySem.W.nsIn K mainGlobals "range" = some none) :
    ∃ fd : FuncData, (∀ (s : Shared) (v : Value), BindsTo s fd ⟨[v], []⟩ [("script", v)]) ∧ ∀ base : Heap, K.In base → base.Ns mainGlobals mg → FnOk l.prog w K mg base (L2.CX l.prog w) 4 fa fd ["script"] (liftF K pfLaw) := by
  have e := hfa.symm.trans (PySem.W.mg_of X G a_law)
  cases e
  have m_abs := PySem.W.mg_none_of X G y_abs
  have m_len := PySem.W.mg_none_of X G y_len
  have m_min := PySem.W.mg_none_of X G y_min
  have m_range := PySem.W.mg_none_of X G y_range
  have F_bag := fun_mk (st := s_bag) l_bag c_bag k_bag
  have F_draw := fun_mk (st := s_draw) l_draw c_draw k_draw
  have F_gcd := fun_mk (st := s_gcd) l_gcd c_gcd k_gcd
  have F_lowest := fun_mk (st := s_lowest) l_lowest c_lowest k_lowest
  have F_below := fun_mk (st := s_below) l_below c_below k_below
  have F_nb := fun_mk (st := s_nb) l_nb c_nb k_nb
  have F_ldiv := fun_mk (st := s_ldiv) l_ldiv c_ldiv k_ldiv
  have F_llow := fun_mk (st := s_llow) l_llow c_llow k_llow
  have F_lbel := fun_mk (st := s_lbel) l_lbel c_lbel k_lbel
  have F_lsid := fun_mk (st := s_lsid) l_lsid c_lsid k_lsid
  have F_law := fun_mk (st := s_law) l_law c_law k_law
  have b_bag := F_bag.binds (ps := ["script"]) fun _ _ _ _ _ _ us hl => match us, hl with | [_], _ => rfl
  have b_draw := F_draw.binds (ps := ["bag", "many"]) fun _ _ _ _ _ _ us hl => match us, hl with | [_, _], _ => rfl
  have b_gcd := F_gcd.binds (ps := ["one", "other"]) fun _ _ _ _ _ _ us hl => match us, hl with | [_, _], _ => rfl
  have b_lowest := F_lowest.binds (ps := ["top", "under"]) fun _ _ _ _ _ _ us hl => match us, hl with | [_, _], _ => rfl
  have b_below := F_below.binds (ps := ["one", "other"]) fun _ _ _ _ _ _ us hl => match us, hl with | [_, _], _ => rfl
  have b_nb := F_nb.binds (ps := ["fraction", "bottom"]) fun _ _ _ _ _ _ us hl => match us, hl with | [_, _], _ => rfl
  have b_ldiv := F_ldiv.binds (ps := ["one", "other"]) fun _ _ _ _ _ _ us hl => match us, hl with | [_, _], _ => rfl
  have b_llow := F_llow.binds (ps := ["top", "under"]) fun _ _ _ _ _ _ us hl => match us, hl with | [_, _], _ => rfl
  have b_lbel := F_lbel.binds (ps := ["one", "other"]) fun _ _ _ _ _ _ us hl => match us, hl with | [_, _], _ => rfl
  have b_lsid := F_lsid.binds (ps := ["pace", "most"]) fun _ _ _ _ _ _ us hl => match us, hl with | [_, _], _ => rfl
  refine ⟨PySem.W.fnOf "law" "law" (defArgs s_law) (defBody s_law) (defScope s_law) .none kV_law dc_law pm_law an_law cd_law ct_law, fun s v => .of_eq rfl, fun base _ _ => ?_⟩
  have D_bag : Def l.prog w K mg base "_law_bag" f_bag _ ["script"] 1 pfBag := ⟨PySem.W.mg_of X G a_bag, k_bag, b_bag, ok_bag F_bag m_abs⟩
  have D_draw : Def l.prog w K mg base "_law_draw" f_draw _ ["bag", "many"] 1 pfDraw := ⟨PySem.W.mg_of X G a_draw, k_draw, b_draw, ok_draw F_draw m_len⟩
  have D_gcd : Def l.prog w K mg base "greatest_divisor" f_gcd _ ["one", "other"] 1 pfGcd := ⟨PySem.W.mg_of X G a_gcd, k_gcd, b_gcd, ok_gcd F_gcd m_abs⟩
  have D_lowest : Def l.prog w K mg base "lowest" f_lowest _ ["top", "under"] 2 pfLowest := ⟨PySem.W.mg_of X G a_lowest, k_lowest, b_lowest, ok_lowest F_lowest D_gcd⟩
  have D_below : Def l.prog w K mg base "is_below" f_below _ ["one", "other"] 1 pfBelow := ⟨PySem.W.mg_of X G a_below, k_below, b_below, ok_below F_below⟩
  have D_nb : Def l.prog w K mg base "neighbours" f_nb _ ["fraction", "bottom"] 3 pfNb := ⟨PySem.W.mg_of X G a_nb, k_nb, b_nb, ok_nb F_nb m_range m_min D_below D_lowest⟩
  have B_nb : KwB K _ ["fraction", "bottom"] ["bottom", "fraction"] [1, 0] := kwb_of F_nb fun _ _ _ _ _ _ ws hl => match ws, hl with | [_, _], _ => rfl
  have D_ldiv : Def l.prog w K mg base "_law_divisor" f_ldiv _ ["one", "other"] 1 pfDiv := ⟨PySem.W.mg_of X G a_ldiv, k_ldiv, b_ldiv, ok_ldiv F_ldiv m_abs⟩
  have D_llow : Def l.prog w K mg base "_law_lowest" f_llow _ ["top", "under"] 2 pfLowest := ⟨PySem.W.mg_of X G a_llow, k_llow, b_llow, ok_llow F_llow D_ldiv⟩
  have D_lbel : Def l.prog w K mg base "_law_below" f_lbel _ ["one", "other"] 1 pfBelow := ⟨PySem.W.mg_of X G a_lbel, k_lbel, b_lbel, ok_lbel F_lbel⟩
  have D_lsid : Def l.prog w K mg base "_law_sides" f_lsid _ ["pace", "most"] 3 pfSides := ⟨PySem.W.mg_of X G a_lsid, k_lsid, b_lsid, ok_lsid F_lsid m_range D_lbel D_llow⟩
  exact ok_law F_law m_range m_min m_len D_bag D_draw D_llow D_lsid D_nb B_nb
end My
open PySem PySem.W PyProof.Rows in
set_option maxRecDepth 100000 in
set_option maxHeartbeats 0 in
theorem PySem.Challenge.cw_darkpace_k40_neighbours_told_holds : PySem.Challenge.rw_darkpace_k40_neighbours_told.Holds := by
  w_on; o_law; k_head; (case hw => w_witness2)
  k_fill
  refine L2.walk_of (l := PySem.Challenge.rw_darkpace_k40_neighbours_told) (n := 63) (k := 4) (x := "script") (CX := fun w => L2.CX PySem.Challenge.rw_darkpace_k40_neighbours_told.prog w) (sp := fun w => PL.liftF _ My.pfLaw) rfl (by decide) rfl ⟨rfl, by decide, by decide⟩ (fun w h Y => PySem.W.kIn_of Y) ?F (fun _ H a ns hl ho hS => My.law_start hl hS) (fun _ _ _ _ _ h => by obtain ⟨_, _, _, _, _, _, _, _, _, _, _, _, z⟩ := h; exact z)
  case F =>
    intro w mg fa h KX G hmg
    refine' My.all_mk KX G hmg ?a_bag ?l_bag ?c_bag ?k_bag ?a_draw ?l_draw ?c_draw ?k_draw ?a_gcd ?l_gcd ?c_gcd ?k_gcd ?a_lowest ?l_lowest ?c_lowest ?k_lowest ?a_below ?l_below ?c_below ?k_below ?a_nb ?l_nb ?c_nb ?k_nb ?a_ldiv ?l_ldiv ?c_ldiv ?k_ldiv ?a_llow ?l_llow ?c_llow ?k_llow ?a_lbel ?l_lbel ?c_lbel ?k_lbel ?a_lsid ?l_lsid ?c_lsid ?k_lsid ?a_law ?l_law ?c_law ?k_law ?y_abs ?y_len ?y_min ?y_range
    (case a_bag => k_is)
    (case l_bag => k_is)
    (case c_bag => k_is)
    (case k_bag => k_is)
    (case a_draw => k_is)
    (case l_draw => k_is)
    (case c_draw => k_is)
    (case k_draw => k_is)
    (case a_gcd => k_is)
    (case l_gcd => k_is)
    (case c_gcd => k_is)
    (case k_gcd => k_is)
    (case a_lowest => k_is)
    (case l_lowest => k_is)
    (case c_lowest => k_is)
    (case k_lowest => k_is)
    (case a_below => k_is)
    (case l_below => k_is)
    (case c_below => k_is)
    (case k_below => k_is)
    (case a_nb => k_is)
    (case l_nb => k_is)
    (case c_nb => k_is)
    (case k_nb => k_is)
    (case a_ldiv => k_is)
    (case l_ldiv => k_is)
    (case c_ldiv => k_is)
    (case k_ldiv => k_is)
    (case a_llow => k_is)
    (case l_llow => k_is)
    (case c_llow => k_is)
    (case k_llow => k_is)
    (case a_lbel => k_is)
    (case l_lbel => k_is)
    (case c_lbel => k_is)
    (case k_lbel => k_is)
    (case a_lsid => k_is)
    (case l_lsid => k_is)
    (case c_lsid => k_is)
    (case k_lsid => k_is)
    (case a_law => k_is)
    (case l_law => k_is)
    (case c_law => k_is)
    (case k_law => k_is)
    (case y_abs => k_is)
    (case y_len => k_is)
    (case y_min => k_is)
    (case y_range => k_is)
